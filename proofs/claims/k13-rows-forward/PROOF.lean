import PyProof.Rows.All
import Wide.All
import OpenK.AllK
import Wide.FinOn
import HandS.ForMost
import HandS.Exc
import HandS.TryOnly
import HandS.ExcOwn
import HandS.WordsExc
import HandS.Evl
import HandS.Steps
import HandS.More
import HandS.IsInst
import HandS.Codes
import HandS.Conv
import HandS.Walk
import HandS.Zip
import HandS.Replace
import KE.RegKIsAll
import PySem.Challenge.RW_retryhall_k13_whole_rows_forward
set_option Elab.async false
set_option linter.all false
set_option maxRecDepth 100000
set_option maxHeartbeats 2000000
namespace RT
open PySem L2
abbrev Ex := Evl.Ex
structure Ad where
  K : PySem.W.Frag
  cPart : Addr := 0
  cLet : Addr := 0
  cReckon : Addr := 0
  cTake : Addr := 0
  cPut : Addr := 0
  cIf : Addr := 0
  cEither : Addr := 0
  cTry : Addr := 0
  cThrow : Addr := 0
  cWait : Addr := 0
  cLog : Addr := 0
  cDoer : Addr := 0
  cHand : Addr := 0
  cHall : Addr := 0
  cDesk : Addr := 0
  cHallError : Addr := 0
  cNoDeed : Addr := 0
  cNoBoxes : Addr := 0
  cNoHands : Addr := 0
  cNoHand : Addr := 0
  cNoRow : Addr := 0
  aSUMS : Addr := 0
def spLaw (K : PySem.W.Frag) : Sp := fun vs H Q _ => ∃ (a : Addr) (ns : List Int), vs = [.ref a] ∧ SqL K H a (ns.map V.int) ∧ ns.length ≤ 63 ∧ ∀ H', Q (.bl true) H'
@[irreducible] def dB (p : Prop) [Decidable p] : Bool := decide p
theorem dB_eq (p : Prop) [Decidable p] : dB p = decide p := by unfold dB; rfl
theorem dB_t {p : Prop} [Decidable p] (h : p) : dB p = true := by rw [dB_eq]; exact decide_eq_true h
theorem dB_f {p : Prop} [Decidable p] (h : ¬ p) : dB p = false := by rw [dB_eq]; exact decide_eq_false h
theorem dB_congr {p q : Prop} [Decidable p] [Decidable q] (h : p ↔ q) : dB p = dB q := by rw [dB_eq, dB_eq]; exact decide_eq_decide.mpr h
theorem of_dB {p : Prop} [Decidable p] (h : dB p = true) : p := by rw [dB_eq] at h; exact of_decide_eq_true h
theorem of_dB_f {p : Prop} [Decidable p] (h : dB p = false) : ¬ p := by rw [dB_eq] at h; exact of_decide_eq_false h
theorem nB_t {p : Prop} [Decidable p] (h : ¬ p) : (!dB p) = true := by rw [dB_f h]; rfl
theorem nB_f {p : Prop} [Decidable p] (h : p) : (!dB p) = false := by rw [dB_t h]; rfl
theorem dB_iff {p : Prop} [Decidable p] : dB p = true ↔ p := ⟨of_dB, dB_t⟩
theorem dB_iff_f {p : Prop} [Decidable p] : dB p = false ↔ ¬ p := ⟨of_dB_f, dB_f⟩
abbrev aAdd := tOp (rI0 fun i j => V.int (i + j))
abbrev aSub := tOp (rI0 fun i j => V.int (i - j))
abbrev aMul := tOp (rI CMul fun i j => V.int (i * j))
abbrev aMod := tOp (rI (fun _ j => 0 < j) fun i j => V.int (i % j))
abbrev aDiv := tOp (rI CDiv fun i j => V.int (i / j))
abbrev aPow := tOp (rI CPow fun i j => V.int (i ^ j.toNat))
abbrev aNeg := tUn (rU fun i => V.int (-i))
def rAddS : R2 := fun x y H Q => ∃ i j, x = .str i ∧ y = .str j ∧ i.length + j.length ≤ sizeLine ∧ Q (.str (i ++ j)) H
abbrev aAddS := tOp rAddS
abbrev aCat := tOp rCat
abbrev aCatT (K : PySem.W.Frag) := tOp (rCatT K)
abbrev aRep := tOp rRep
def rLt : R2 := rI0 fun i j => V.bl (dB (i < j))
def rLe : R2 := rI0 fun i j => V.bl (dB (i ≤ j))
def rGt : R2 := rI0 fun i j => V.bl (dB (j < i))
def rGe : R2 := rI0 fun i j => V.bl (dB (j ≤ i))
def rLtS : R2 := fun x y H Q => ∃ i j, x = .str i ∧ y = .str j ∧ Q (.bl (dB (i.cps.toList < j.cps.toList))) H
def rLeS : R2 := fun x y H Q => ∃ i j, x = .str i ∧ y = .str j ∧ Q (.bl (!dB (j.cps.toList < i.cps.toList))) H
def rGtS : R2 := fun x y H Q => ∃ i j, x = .str i ∧ y = .str j ∧ Q (.bl (dB (j.cps.toList < i.cps.toList))) H
def rGeS : R2 := fun x y H Q => ∃ i j, x = .str i ∧ y = .str j ∧ Q (.bl (!dB (i.cps.toList < j.cps.toList))) H
def rLenStr : List V → Hp → VK → Prop := fun xs H Q => ∃ x, xs = [.str x] ∧ x.length ≤ sizeLine ∧ Q (.int (x.length : Nat)) H
def rLenD : List V → Hp → VK → Prop := fun xs H Q => ∃ a kvs, xs = [V.ref a] ∧ H a = some (.dK kvs) ∧ Q (.int kvs.length) H
def rIntS : List V → Hp → VK → Prop := fun xs H Q => ∃ a n, xs = [.str a] ∧ PySem.intText? a = some n ∧ a.length ≤ 640 ∧ Q (.int n) H
def rInt1 : List V → Hp → VK → Prop := fun xs H Q => (∃ i, xs = [.int i] ∧ Q (.int i) H) ∨ ∃ k, xs = [.bl k] ∧ Q (.int (if k then 1 else 0)) H
def rStrI : List V → Hp → VK → Prop := fun xs H Q => ∃ i, xs = [.int i] ∧ i.natAbs.log2 < 1920 ∧ Q (.str (toString i)) H
def rMin2 : List V → Hp → VK → Prop := fun xs H Q => ∃ i j, xs = [.int i, .int j] ∧ Q (.int (if j < i then j else i)) H
def rListOf (K : PySem.W.Frag) : List V → Hp → VK → Prop := fun xs H Q => ∃ p ys, xs = [.ref p] ∧ (SqL K H p ys ∨ SqT K H p ys) ∧ ∀ l, H l = none → Q (.ref l) (upd H l (.lst ys))
def rTupleOf (K : PySem.W.Frag) : List V → Hp → VK → Prop := fun xs H Q => ∃ p ys, xs = [.ref p] ∧ ((SqL K H p ys ∧ ∀ l, H l = none → Q (.ref l) (upd H l (.tup ys))) ∨ (SqT K H p ys ∧ Q (.ref p) H))
def rSortedD : List V → Hp → VK → Prop := fun xs H Q => ∃ (a : Addr) (kvs : List (Key × V)) (ks : List Int), xs = [.ref a] ∧ Rd H a (.dK kvs) ∧ kvs.map (·.1) = ks.map Sum.inl ∧ ks.length < 64 ∧
    ∀ (ys : List Int) (p : Addr), ys.Perm ks → ys.Pairwise (· ≤ ·) → H p = none → Q (.ref p) (upd H p (.lst (ys.map V.int)))
def rJoin (K : PySem.W.Frag) : V → List V → Hp → VK → Prop := (fun x xs H Q => ∃ a p, ∃ ys : List Str, x = .str a ∧ xs = [.ref p] ∧ (SqL K H p (ys.map V.str) ∨ SqT K H p (ys.map V.str)) ∧ (ys.map (·.length)).sum + ys.length * a.length ≤ 16777216 ∧ Q (.str (Txt.join a ys)) H)
abbrev aJoin (K : PySem.W.Frag) := tM1 (rJoin K)
def rSplit : V → List V → Hp → VK → Prop := (fun x xs H Q => ∃ a b, x = .str a ∧ xs = [.str b] ∧ (b.length == 0) = false ∧ a.length + 2 ≤ sizeLine ∧ rNewStrs (Txt.split a b) H Q)
abbrev aSplit := tM1 rSplit
def rIndexS : V → List V → Hp → VK → Prop := (fun x xs H Q => ∃ a b i rest, x = .str a ∧ xs = [.str b] ∧ Builtin.Str.occurrences a b 0 a.length 1 = i :: rest ∧ Q (.int (i : Nat)) H)
abbrev aIndexS := tM1 rIndexS
def rFindS : V → List V → Hp → VK → Prop := (fun x xs H Q => ∃ a b, x = .str a ∧ xs = [.str b] ∧ Q (.int (Txt.find a b)) H)
abbrev aFind := tM1 rFindS
section
variable {X : Cx}
theorem o_lt : OpR X (compareOp .Lt) rLt := by unfold rLt; simp only [dB_eq]; exact op_lt
theorem o_le : OpR X (compareOp .LtE) rLe := by unfold rLe; simp only [dB_eq]; exact op_le
theorem o_gt : OpR X (compareOp .Gt) rGt := by unfold rGt; simp only [dB_eq]; exact op_gt
theorem o_ge : OpR X (compareOp .GtE) rGe := by unfold rGe; simp only [dB_eq]; exact op_ge
theorem o_lt_str : OpR X (compareOp .Lt) rLtS := by unfold rLtS; simp only [dB_eq]; exact op_lt_str
theorem o_le_str : OpR X (compareOp .LtE) rLeS := by unfold rLeS; simp only [dB_eq]; exact op_le_str
theorem o_gt_str : OpR X (compareOp .Gt) rGtS := by unfold rGtS; simp only [dB_eq]; exact op_gt_str
theorem o_ge_str : OpR X (compareOp .GtE) rGeS := by unfold rGeS; simp only [dB_eq]; exact op_ge_str
end
theorem kit_int_int : kitB "int" "int" = some true := by decide +kernel
theorem kit_int_bool : kitB "int" "bool" = some false := by decide +kernel
theorem kit_int_str : kitB "int" "str" = some false := by decide +kernel
theorem kit_int_list : kitB "int" "list" = some false := by decide +kernel
theorem kit_int_tuple : kitB "int" "tuple" = some false := by decide +kernel
theorem kit_int_dict : kitB "int" "dict" = some false := by decide +kernel
theorem kit_bool_int : kitB "bool" "int" = some true := by decide +kernel
theorem kit_bool_bool : kitB "bool" "bool" = some true := by decide +kernel
theorem kit_bool_str : kitB "bool" "str" = some false := by decide +kernel
theorem kit_bool_list : kitB "bool" "list" = some false := by decide +kernel
theorem kit_bool_tuple : kitB "bool" "tuple" = some false := by decide +kernel
theorem kit_bool_dict : kitB "bool" "dict" = some false := by decide +kernel
theorem kit_str_int : kitB "str" "int" = some false := by decide +kernel
theorem kit_str_bool : kitB "str" "bool" = some false := by decide +kernel
theorem kit_str_str : kitB "str" "str" = some true := by decide +kernel
theorem kit_str_list : kitB "str" "list" = some false := by decide +kernel
theorem kit_str_tuple : kitB "str" "tuple" = some false := by decide +kernel
theorem kit_str_dict : kitB "str" "dict" = some false := by decide +kernel
theorem kit_NoneType_int : kitB "NoneType" "int" = some false := by decide +kernel
theorem kit_NoneType_bool : kitB "NoneType" "bool" = some false := by decide +kernel
theorem kit_NoneType_str : kitB "NoneType" "str" = some false := by decide +kernel
theorem kit_NoneType_list : kitB "NoneType" "list" = some false := by decide +kernel
theorem kit_NoneType_tuple : kitB "NoneType" "tuple" = some false := by decide +kernel
theorem kit_NoneType_dict : kitB "NoneType" "dict" = some false := by decide +kernel
theorem kit_list_int : kitB "list" "int" = some false := by decide +kernel
theorem kit_list_bool : kitB "list" "bool" = some false := by decide +kernel
theorem kit_list_str : kitB "list" "str" = some false := by decide +kernel
theorem kit_list_list : kitB "list" "list" = some true := by decide +kernel
theorem kit_list_tuple : kitB "list" "tuple" = some false := by decide +kernel
theorem kit_list_dict : kitB "list" "dict" = some false := by decide +kernel
theorem kit_tuple_int : kitB "tuple" "int" = some false := by decide +kernel
theorem kit_tuple_bool : kitB "tuple" "bool" = some false := by decide +kernel
theorem kit_tuple_str : kitB "tuple" "str" = some false := by decide +kernel
theorem kit_tuple_list : kitB "tuple" "list" = some false := by decide +kernel
theorem kit_tuple_tuple : kitB "tuple" "tuple" = some true := by decide +kernel
theorem kit_tuple_dict : kitB "tuple" "dict" = some false := by decide +kernel
theorem kit_dict_int : kitB "dict" "int" = some false := by decide +kernel
theorem kit_dict_bool : kitB "dict" "bool" = some false := by decide +kernel
theorem kit_dict_str : kitB "dict" "str" = some false := by decide +kernel
theorem kit_dict_list : kitB "dict" "list" = some false := by decide +kernel
theorem kit_dict_tuple : kitB "dict" "tuple" = some false := by decide +kernel
theorem kit_dict_dict : kitB "dict" "dict" = some true := by decide +kernel
section
variable {K : PySem.W.Frag} {σ σ' : L2.St} {H H' : Hp} {ta tb te tx : TE} {x y z v : V} {r : R2} {Q : VK} {D : Ends} {t u c : TT} {ts tu tw : TS} {g : TG} {i j : Nat}
theorem w_var (h : σ[i]? = some (some v)) (q : Q v H) : tVar i σ H Q := ⟨v, h, q⟩
theorem w_c (q : Q v H) : tC v σ H Q := q
theorem w_op (q : ta σ H fun x H1 => tb σ H1 fun y H2 => r x y H2 Q) : tOp r ta tb σ H Q := q
theorem w_un {r : V → Hp → VK → Prop} (q : ta σ H fun x H1 => r x H1 Q) : tUn r ta σ H Q := q
theorem w_i0 {f : Int → Int → V} {a b : Int} (q : Q (f a b) H) : rI0 f (.int a) (.int b) H Q := ⟨a, b, rfl, rfl, q⟩
theorem w_i {C : Int → Int → Prop} {f : Int → Int → V} {a b : Int} (hc : C a b) (q : Q (f a b) H) : rI C f (.int a) (.int b) H Q := ⟨a, b, rfl, rfl, hc, q⟩
theorem w_u {f : Int → V} {a : Int} (q : Q (f a) H) : rU f (.int a) H Q := ⟨a, rfl, q⟩
theorem w_eqI {a b : Int} (q : Q (.bl (dB (a = b))) H) : rEq (.int a) (.int b) H Q := ⟨rfl, by simpa [dB_eq] using q⟩
theorem w_neI {a b : Int} (q : Q (.bl (!dB (a = b))) H) : rNe (.int a) (.int b) H Q := ⟨rfl, by simpa [dB_eq] using q⟩
theorem w_eqS {a b : Str} (q : Q (.bl (dB (a = b))) H) : rEq (.str a) (.str b) H Q := ⟨rfl, by simpa [dB_eq] using q⟩
theorem w_neS {a b : Str} (q : Q (.bl (!dB (a = b))) H) : rNe (.str a) (.str b) H Q := ⟨rfl, by simpa [dB_eq] using q⟩
theorem w_eq (h : scal x y = true) (q : Q (.bl (dB (x = y))) H) : rEq x y H Q := ⟨h, by rw [← dB_eq]; exact q⟩
theorem w_ne (h : scal x y = true) (q : Q (.bl (!dB (x = y))) H) : rNe x y H Q := ⟨h, by rw [← dB_eq]; exact q⟩
theorem w_isNN (q : Q (.bl true) H) : rIsN .non .non H Q := ⟨rfl, q⟩
theorem w_isNI {a : Int} (q : Q (.bl false) H) : rIsN (.int a) .non H Q := ⟨rfl, q⟩
theorem w_isNS {a : Str} (q : Q (.bl false) H) : rIsN (.str a) .non H Q := ⟨rfl, q⟩
theorem w_isNR {a : Addr} (q : Q (.bl false) H) : rIsN (.ref a) .non H Q := ⟨rfl, q⟩
theorem w_notNN (q : Q (.bl false) H) : rNotN .non .non H Q := ⟨rfl, q⟩
theorem w_notNI {a : Int} (q : Q (.bl true) H) : rNotN (.int a) .non H Q := ⟨rfl, q⟩
theorem w_notNS {a : Str} (q : Q (.bl true) H) : rNotN (.str a) .non H Q := ⟨rfl, q⟩
theorem w_notNR {a : Addr} (q : Q (.bl true) H) : rNotN (.ref a) .non H Q := ⟨rfl, q⟩

theorem w_i0B {p : Int → Int → Prop} [∀ i j, Decidable (p i j)] {a b : Int} (q : Q (.bl (dB (p a b))) H) : rI0 (fun i j => V.bl (dB (p i j))) (.int a) (.int b) H Q := ⟨a, b, rfl, rfl, q⟩
theorem w_lt {a b : Int} (q : Q (.bl (dB (a < b))) H) : rLt (.int a) (.int b) H Q := ⟨a, b, rfl, rfl, q⟩
theorem w_le {a b : Int} (q : Q (.bl (dB (a ≤ b))) H) : rLe (.int a) (.int b) H Q := ⟨a, b, rfl, rfl, q⟩
theorem w_gt {a b : Int} (q : Q (.bl (dB (b < a))) H) : rGt (.int a) (.int b) H Q := ⟨a, b, rfl, rfl, q⟩
theorem w_ge {a b : Int} (q : Q (.bl (dB (b ≤ a))) H) : rGe (.int a) (.int b) H Q := ⟨a, b, rfl, rfl, q⟩
theorem w_ltS {a b : Str} (q : Q (.bl (dB (a.cps.toList < b.cps.toList))) H) : rLtS (.str a) (.str b) H Q := ⟨a, b, rfl, rfl, q⟩
theorem w_leS {a b : Str} (q : Q (.bl (!dB (b.cps.toList < a.cps.toList))) H) : rLeS (.str a) (.str b) H Q := ⟨a, b, rfl, rfl, q⟩
theorem w_gtS {a b : Str} (q : Q (.bl (dB (b.cps.toList < a.cps.toList))) H) : rGtS (.str a) (.str b) H Q := ⟨a, b, rfl, rfl, q⟩
theorem w_geS {a b : Str} (q : Q (.bl (!dB (a.cps.toList < b.cps.toList))) H) : rGeS (.str a) (.str b) H Q := ⟨a, b, rfl, rfl, q⟩
theorem w_addS {a b : Str} (h : a.length + b.length ≤ sizeLine) (q : Q (.str (a ++ b)) H) : rAddS (.str a) (.str b) H Q := ⟨a, b, rfl, rfl, h, q⟩
theorem w_inS {c : Nat} {w : Str} (q : Q (.bl (dB (c ∈ w.cps.toList))) H) : rInS (.str ⟨#[c]⟩) (.str w) H Q := ⟨c, w, rfl, rfl, by rw [← dB_eq]; exact q⟩
theorem w_ninS {c : Nat} {w : Str} (q : Q (.bl (!dB (c ∈ w.cps.toList))) H) : rNotInS (.str ⟨#[c]⟩) (.str w) H Q := ⟨c, w, rfl, rfl, by rw [← dB_eq]; exact q⟩
theorem w_test {Q : Bool → Hp → Prop} (q : te σ H fun x H' => ∃ k, x = .bl k ∧ Q k H') : tTest te σ H Q := q
theorem w_tB {Q : Bool → Hp → Prop} (q : te σ H fun x H' => ∃ k, x = .bl k ∧ Q k H') : tB te σ H Q := q
theorem w_tru {Q : Bool → Hp → Prop} (q : te σ H fun x H' => ∃ k, TruV K x H' k ∧ Q k H') : tTru K te σ H Q := q
theorem w_bl {P : Bool → Prop} {b : Bool} (q : P b) : ∃ k, V.bl b = .bl k ∧ P k := ⟨b, rfl, q⟩
theorem w_int {P : Int → Prop} {b : Int} (q : P b) : ∃ k, V.int b = .int k ∧ P k := ⟨b, rfl, q⟩
theorem w_ref {P : Addr → Prop} {b : Addr} (q : P b) : ∃ k, V.ref b = .ref k ∧ P k := ⟨b, rfl, q⟩
theorem w_str {P : Str → Prop} {b : Str} (q : P b) : ∃ k, V.str b = .str k ∧ P k := ⟨b, rfl, q⟩
theorem w_and {Q : Bool → Hp → Prop} (q : t σ H fun c H1 => if c = true then u σ H1 Q else Q false H1) : tAnd t u σ H Q := q
theorem w_or {Q : Bool → Hp → Prop} (q : t σ H fun c H1 => if c = true then Q true H1 else u σ H1 Q) : tOr t u σ H Q := q
theorem w_not {Q : Bool → Hp → Prop} (q : t σ H fun c H1 => Q (!c) H1) : tNot t σ H Q := q
theorem w_andV (q : ta σ H fun x H1 => ∃ c, x = .bl c ∧ if c = true then tb σ H1 Q else Q (.bl false) H1) : tAndV ta tb σ H Q := q
theorem w_orV (q : ta σ H fun x H1 => ∃ c, x = .bl c ∧ if c = true then Q (.bl true) H1 else tb σ H1 Q) : tOrV ta tb σ H Q := q
theorem w_notV (q : ta σ H fun x H1 => ∃ c, x = .bl c ∧ Q (.bl (!c)) H1) : tNotV ta σ H Q := q
theorem w_ifE (q : t σ H fun c H1 => if c = true then ta σ H1 Q else tb σ H1 Q) : tIf t ta tb σ H Q := q
theorem w_chain {r r' : R2} {tc : TE} (q : ta σ H fun x H1 => tb σ H1 fun y H2 => r x y H2 fun z H3 => ∃ k, z = .bl k ∧ (if k = true then tc σ H3 fun w' H4 => r' y w' H4 Q else Q (.bl false) H3)) : tChain r r' ta tb tc σ H Q := q
theorem w_dec {p A B : Prop} [Decidable p] (h1 : p → A) (h2 : ¬ p → B) : if dB p = true then A else B := by
  by_cases h : p
  · rw [if_pos (dB_t h)]; exact h1 h
  · rw [if_neg (by rw [dB_f h]; exact Bool.false_ne_true)]; exact h2 h
theorem w_ndec {p A B : Prop} [Decidable p] (h1 : ¬ p → A) (h2 : p → B) : if (!dB p) = true then A else B := by
  by_cases h : p
  · rw [if_neg (by rw [dB_t h]; exact Bool.false_ne_true)]; exact h2 h
  · rw [if_pos (by rw [dB_f h]; rfl)]; exact h1 h
theorem w_bool {b : Bool} {A B : Prop} (h1 : b = true → A) (h2 : b = false → B) : if b = true then A else B := by
  cases b with
  | true => exact h1 rfl
  | false => exact h2 rfl
theorem w_tt {b : Bool} {A B : Prop} (e : b = true) (h : A) : if b = true then A else B := by rw [if_pos e]; exact h
theorem w_ff {b : Bool} {A B : Prop} (e : b = false) (h : B) : if b = true then A else B := by rw [if_neg (by rw [e]; exact Bool.false_ne_true)]; exact h
theorem w_ttL {A B : Prop} (h : A) : if true = true then A else B := iteT h
theorem w_ffL {A B : Prop} (h : B) : if false = true then A else B := iteF h
theorem w_seq (q : ts { D with nx := tu D } σ H) : tSeq ts tu D σ H := q
theorem w_cut (Mid : L2.St → Hp → Prop) (h : ts { D with nx := Mid } σ H) (k : ∀ σ' H', Mid σ' H' → tu D σ' H') : Evl.tCut ts tu D σ H := ⟨Mid, h, k⟩
theorem w_next (q : D.nx σ H) : tNext D σ H := q
theorem w_brk (q : D.bk σ H) : tBreak D σ H := q
theorem w_cont (q : D.ct σ H) : tCont D σ H := q
theorem w_asg (q : te σ H fun x H1 => g x σ H1 D.nx) : tAsg te g D σ H := q
theorem w_gn {Q : L2.St → Hp → Prop} (e : σ.set i (some v) = σ') (q : Q σ' H) : gName i v σ H Q := by subst e; exact q
theorem w_drop (q : te σ H fun _ H1 => D.nx σ H1) : tDrop te D σ H := q
theorem w_ret (q : te σ H D.rt) : tRet te D σ H := q
theorem w_retN (q : D.rt .non H) : tRetN D σ H := q
theorem w_ifS (q : c σ H fun b H1 => if b = true then ts D σ H1 else tu D σ H1) : tIfS c ts tu D σ H := q
theorem w_aug {ti : TIp} (h : σ[i]? = some (some x)) (q : te σ H fun y H1 => ti x y H1 fun z H2 => D.nx (σ.set i (some z)) H2) : tAug i te ti D σ H := ⟨x, h, q⟩
theorem w_ip {f : Int → Int → Int} {a b : Int} (q : Q (.int (f a b)) H) : ipI f (.int a) (.int b) H Q := ⟨a, b, rfl, rfl, q⟩
theorem w_par {ta : TA} (q : ta σ H fun vs H1 => ∃ v w, vs = [v, w] ∧ D.nx ((σ.set i (some v)).set j (some w)) H1) : tPar i j ta D σ H := q
theorem w_v2 {P : V → V → Prop} (q : P x y) : ∃ v w, [x, y] = [v, w] ∧ P v w := ⟨x, y, rfl, q⟩
theorem w_nil {Q : List V → Hp → Prop} (q : Q [] H) : tNil σ H Q := q
theorem w_cons {tr : TA} {Q : List V → Hp → Prop} (q : ta σ H fun x H1 => tr σ H1 fun xs H2 => Q (x :: xs) H2) : tCons ta tr σ H Q := q
theorem w_call {sp : Sp} {E : XK} {t : TA} (q : t σ H fun vs H1 => sp vs H1 Q E) : tCall sp [] E t σ H Q := by
  unfold tCall
  simp only [List.append_nil]
  exact q
theorem w_cb {r : List V → Hp → VK → Prop} {t : TA} (q : t σ H fun vs H1 => r vs H1 Q) : tCB r t σ H Q := q
def rMeth (C : Addr) (m : Str) (sp : Sp) (E : XK) (t : TA) (σ : L2.St) (x : V) (H : Hp) (Q : VK) : Prop := ∃ a dx fs, x = .ref a ∧ H a = some (.ins C dx fs) ∧ fs.lookup m = none ∧ t σ H fun vs H2 => sp (x :: vs) H2 Q E
theorem w_meth {C : Addr} {m : Str} {sp : Sp} {E : XK} {t : TA} (q : ta σ H fun x H1 => rMeth C m sp E t σ x H1 Q) : tMeth C m sp [] E ta t σ H Q := by
  unfold tMeth
  simp only [List.append_nil]
  exact q
theorem w_meth1 {C p dx : Addr} {m : Str} {sp : Sp} {E : XK} {t : TA} {fs : List (Str × V)} (h : H p = some (.ins C dx fs)) (l : fs.lookup m = none) (q : t σ H fun vs H2 => sp (.ref p :: vs) H2 Q E) : rMeth C m sp E t σ (.ref p) H Q := ⟨p, dx, fs, rfl, h, l, q⟩
theorem w_make {C : Addr} {sp : Sp} {E : XK} {t : TA} (q : t σ H fun vs H1 => ∀ x dx, H1 x = none → H1 dx = none → dx ≠ x → sp (.ref x :: vs) (upd (upd H1 dx (.own x)) x (.ins C dx [])) (fun v H2 => v = .non ∧ Q (.ref x) H2) E) : tMake C sp [] E t σ H Q := by
  unfold tMake
  simp only [List.append_nil]
  exact q
theorem w_int1 {a : Int} (q : Q (.int a) H) : rInt1 [.int a] H Q := .inl ⟨a, rfl, q⟩
theorem w_int1b {k : Bool} (q : Q (.int (if k then 1 else 0)) H) : rInt1 [.bl k] H Q := .inr ⟨k, rfl, q⟩
theorem w_lenStr {x : Str} (h : x.length ≤ sizeLine) (q : Q (.int (x.length : Nat)) H) : rLenStr [.str x] H Q := ⟨x, rfl, h, q⟩
theorem w_lenS {p : Addr} {xs : List V} (h : SqL K H p xs) (q : Q (.int xs.length) H) : Evl.rLenS K [.ref p] H Q := ⟨p, xs, rfl, .inl h, q⟩
theorem w_lenT {p : Addr} {xs : List V} (h : SqT K H p xs) (q : Q (.int xs.length) H) : Evl.rLenS K [.ref p] H Q := ⟨p, xs, rfl, .inr h, q⟩
theorem w_max2 {a b : Int} (q : Q (.int (if b > a then b else a)) H) : Evl.rMax2 [.int a, .int b] H Q := ⟨a, b, rfl, q⟩
theorem w_min2 {a b : Int} (q : Q (.int (if b < a then b else a)) H) : rMin2 [.int a, .int b] H Q := ⟨a, b, rfl, q⟩
theorem w_isi {c : V} {t u : Value} {b : Bool} (k : ClsV c u) (ty : TyX K H x t) (e : PySem.W.kitOne K t u = some b) (q : Q (.bl b) H) : rIsi K [x, c] H Q := ⟨x, c, t, u, b, rfl, k, ty, e, q⟩
theorem w_isiI {n : String} {b : Bool} {a : Int} (e : kitB "int" n = some b) (q : Q (.bl b) H) : rIsi K [.int a, .ty n] H Q := w_isi (.ty n) (.base (.int a)) (kit_ty e) q
theorem w_isiB {n : String} {b : Bool} {a : Bool} (e : kitB "bool" n = some b) (q : Q (.bl b) H) : rIsi K [.bl a, .ty n] H Q := w_isi (.ty n) (.base (.bl a)) (kit_ty e) q
theorem w_isiN {n : String} {b : Bool} (e : kitB "NoneType" n = some b) (q : Q (.bl b) H) : rIsi K [.non, .ty n] H Q := w_isi (.ty n) (.base .non) (kit_ty e) q
theorem w_isiS {n : String} {b : Bool} {a : Str} (e : kitB "str" n = some b) (q : Q (.bl b) H) : rIsi K [.str a, .ty n] H Q := w_isi (.ty n) (.base (.str a)) (kit_ty e) q
theorem w_isiL {n : String} {b : Bool} {p : Addr} {xs : List V} (h : H p = some (.lst xs)) (e : kitB "list" n = some b) (q : Q (.bl b) H) : rIsi K [.ref p, .ty n] H Q := w_isi (.ty n) (.base (.lst h)) (kit_ty e) q
theorem w_isiT {n : String} {b : Bool} {p : Addr} {xs : List V} (h : H p = some (.tup xs)) (e : kitB "tuple" n = some b) (q : Q (.bl b) H) : rIsi K [.ref p, .ty n] H Q := w_isi (.ty n) (.base (.tup h)) (kit_ty e) q
theorem w_tup {t : TA} (q : t σ H fun xs H1 => xs.length ≤ sizeLine ∧ ∀ p, H1 p = none → Q (.ref p) (upd H1 p (.tup xs))) : tTup t σ H Q := q
theorem w_lst {t : TA} (q : t σ H fun xs H1 => xs.length ≤ sizeLine ∧ ∀ p, H1 p = none → Q (.ref p) (upd H1 p (.lst xs))) : tLst t σ H Q := q
theorem w_sz {n : Nat} {B : Prop} (h : n ≤ sizeLine) (q : B) : n ≤ sizeLine ∧ B := ⟨h, q⟩
theorem w_dnew (q : ∀ p, H p = none → Q (.ref p) (upd H p (.dK []))) : tDNewK σ H Q := q
theorem ex_at {a : Addr} {o : HO} (e : Ex H H') (h : H a = some o) : H' a = some o := e a o h
theorem ex_sq {a : Addr} {xs : List V} (e : Ex H H') (h : SqL K H a xs) : SqL K H' a xs := Evl.ex_l e h
theorem ex_st {a : Addr} {xs : List V} (e : Ex H H') (h : SqT K H a xs) : SqT K H' a xs := Evl.ex_t e h
theorem new_ex {p : Addr} {o : HO} (h : H p = none) (e : upd H p o = H') : Ex H H' := e ▸ Evl.Ex.new h
theorem new_at {p : Addr} {o : HO} (e : upd H p o = H') : H' p = some o := e ▸ upd_same
theorem ex_free {a : Addr} (e : Ex H H') (h : H' a = none) : H a = none := Evl.fresh_back e h
theorem w_ixL {p : Addr} {xs : List V} {i : Int} (h : SqL K H p xs) (a : atI xs i = some v) (q : Q v H) : rIxL K (.ref p) (.int i) H Q := ⟨p, xs, i, v, rfl, rfl, h, a, q⟩
theorem w_ixT {p : Addr} {xs : List V} {i : Int} (h : SqT K H p xs) (a : atI xs i = some v) (q : Q v H) : rIxT K (.ref p) (.int i) H Q := ⟨p, xs, i, v, rfl, rfl, h, a, q⟩
theorem w_ixS {z : Str} {i : Int} {c : Nat} (h : z.length ≤ sizeLine) (a : atI z.cps.toList i = some c) (q : Q (.str ⟨#[c]⟩) H) : rIxS (.str z) (.int i) H Q := ⟨z, i, c, rfl, rfl, h, a, q⟩
theorem w_sl {r : V → Option Int → Option Int → Hp → VK → Prop} {tl th : TO} (q : te σ H fun x H1 => tl σ H1 fun l H2 => th σ H2 fun u H3 => r x l u H3 Q) : tSl r te tl th σ H Q := q
theorem w_noPart {Q : Option Int → Hp → Prop} (q : Q none H) : tNoPart σ H Q := q
theorem w_part {Q : Option Int → Hp → Prop} (q : te σ H fun x H1 => ∃ i, x = .int i ∧ Q (some i) H1) : tPart te σ H Q := q
theorem w_slL {p : Addr} {xs : List V} {lo hi : Option Int} (h : SqL K H p xs) (q : ∀ l, H l = none → Q (.ref l) (upd H l (.lst (cutV xs lo hi)))) : rSlL K (.ref p) lo hi H Q := ⟨p, xs, rfl, h, q⟩
theorem w_slS {z : Str} {lo hi : Option Int} (h : z.length ≤ sizeLine) (q : Q (.str (cutS z lo hi)) H) : rSlS (.str z) lo hi H Q := ⟨z, rfl, h, q⟩
theorem w_cat {l b : Addr} {xs zs : List V} (h1 : H l = some (.lst xs)) (h2 : H b = some (.lst zs)) (hl : xs.length + zs.length ≤ sizeLine) (q : ∀ p, H p = none → Q (.ref p) (upd H p (.lst (xs ++ zs)))) : rCat (.ref l) (.ref b) H Q := ⟨l, b, xs, zs, rfl, rfl, h1, h2, hl, q⟩
theorem w_for {wi : TI} (q : wi σ H fun J H1 => ∃ W : Nat → Nat → L2.St → Hp → Prop, (∃ m, W 0 m σ H1) ∧ ∀ i m σ H, W i m σ H →
  (J.stop i H ∧ D.nx σ H) ∨ (J.go i H ∧ ∃ N : L2.St → Hp → Prop, (∀ σ' H', N σ' H' → ∃ m', m' < m ∧ W (i + 1) m' σ' H') ∧ ∀ x H', J.yld i H x H' → g x σ H' fun σ2 H2 => ts { D with nx := N, ct := N, bk := D.nx } σ2 H2)) : tFor wi g ts D σ H := q
theorem w_iList {R : It → Hp → Prop} (q : te σ H fun x H1 => ∃ a, x = .ref a ∧ (∃ xs, SqL K H1 a xs) ∧ R (Itl K a) H1) : iList K te σ H R := q
theorem w_iTup {R : It → Hp → Prop} (q : te σ H fun x H1 => ∃ a, x = .ref a ∧ (∃ xs, SqT K H1 a xs) ∧ R (Itt K a) H1) : iTup K te σ H R := q
theorem w_iStr {R : It → Hp → Prop} (q : te σ H fun v H1 => ∃ x, v = .str x ∧ R (Its x) H1) : iStr te σ H R := q
theorem w_iRng1 {ta : TA} {R : It → Hp → Prop} (q : ta σ H fun vs H1 => ∃ j : Int, vs = [.int j] ∧ -(2 ^ 62) ≤ j ∧ j < 2 ^ 62 ∧ R (Itr 0 j.toNat) H1) : iRng1 ta σ H R := q
theorem w_iRng2 {ta : TA} {R : It → Hp → Prop} (q : ta σ H fun vs H1 => ∃ i j : Int, vs = [.int i, .int j] ∧ (-(2 ^ 62) ≤ i ∧ i < 2 ^ 62 ∧ -(2 ^ 62) ≤ j ∧ j < 2 ^ 62) ∧ R (Itr i (j - i).toNat) H1) : iRng2 ta σ H R := q
theorem w_v1I {P : Int → Prop} {n : Int} (q : P n) : ∃ j, [V.int n] = [.int j] ∧ P j := ⟨n, rfl, q⟩
theorem w_v2I {P : Int → Int → Prop} {n m : Int} (q : P n m) : ∃ i j, [V.int n, .int m] = [.int i, .int j] ∧ P i j := ⟨n, m, rfl, q⟩
theorem f_list {a : Addr} {xs : List V} (hx : SqL K H a xs) (Pv : Nat → L2.St → Hp → Prop) (h0 : Pv 0 σ H) (hl : ∀ i σ H, i ≤ xs.length → Pv i σ H → SqL K H a xs)
    (hs : ∀ i x σ H, xs[i]? = some x → Pv i σ H → g x σ H fun σ2 H2 => ts { D with nx := Pv (i + 1), ct := Pv (i + 1), bk := D.nx } σ2 H2) (hd : ∀ σ H, Pv xs.length σ H → D.nx σ H) :
    (∃ xs, SqL K H a xs) ∧ ∃ W : Nat → Nat → L2.St → Hp → Prop, (∃ m, W 0 m σ H) ∧ ∀ i m σ H, W i m σ H →
      ((Itl K a).stop i H ∧ D.nx σ H) ∨ ((Itl K a).go i H ∧ ∃ N : L2.St → Hp → Prop, (∀ σ' H', N σ' H' → ∃ m', m' < m ∧ W (i + 1) m' σ' H') ∧ ∀ x H', (Itl K a).yld i H x H' → g x σ H' fun σ2 H2 => ts { D with nx := N, ct := N, bk := D.nx } σ2 H2) :=
  ⟨⟨xs, hx⟩, for_list Pv h0 hl hs hd⟩
theorem f_tup {a : Addr} {xs : List V} (hx : SqT K H a xs) (Pv : Nat → L2.St → Hp → Prop) (h0 : Pv 0 σ H) (hl : ∀ i σ H, i ≤ xs.length → Pv i σ H → SqT K H a xs)
    (hs : ∀ i x σ H, xs[i]? = some x → Pv i σ H → g x σ H fun σ2 H2 => ts { D with nx := Pv (i + 1), ct := Pv (i + 1), bk := D.nx } σ2 H2) (hd : ∀ σ H, Pv xs.length σ H → D.nx σ H) :
    (∃ xs, SqT K H a xs) ∧ ∃ W : Nat → Nat → L2.St → Hp → Prop, (∃ m, W 0 m σ H) ∧ ∀ i m σ H, W i m σ H →
      ((Itt K a).stop i H ∧ D.nx σ H) ∨ ((Itt K a).go i H ∧ ∃ N : L2.St → Hp → Prop, (∀ σ' H', N σ' H' → ∃ m', m' < m ∧ W (i + 1) m' σ' H') ∧ ∀ x H', (Itt K a).yld i H x H' → g x σ H' fun σ2 H2 => ts { D with nx := N, ct := N, bk := D.nx } σ2 H2) :=
  ⟨⟨xs, hx⟩, for_tup Pv h0 hl hs hd⟩
theorem f_rng {n : Int} (h1 : 0 ≤ n) (h2 : n ≤ 1000000) (Pv : Nat → L2.St → Hp → Prop) (h0 : Pv 0 σ H)
    (hs : ∀ (i : Nat) σ H, (i : Int) < n → Pv i σ H → g (.int (i : Int)) σ H fun σ2 H2 => ts { D with nx := Pv (i + 1), ct := Pv (i + 1), bk := D.nx } σ2 H2) (hd : ∀ σ H, Pv n.toNat σ H → D.nx σ H) :
    -(2 ^ 62) ≤ n ∧ n < 2 ^ 62 ∧ ∃ W : Nat → Nat → L2.St → Hp → Prop, (∃ m, W 0 m σ H) ∧ ∀ i m σ H, W i m σ H →
      ((Itr 0 n.toNat).stop i H ∧ D.nx σ H) ∨ ((Itr 0 n.toNat).go i H ∧ ∃ N : L2.St → Hp → Prop, (∀ σ' H', N σ' H' → ∃ m', m' < m ∧ W (i + 1) m' σ' H') ∧ ∀ x H', (Itr 0 n.toNat).yld i H x H' → g x σ H' fun σ2 H2 => ts { D with nx := N, ct := N, bk := D.nx } σ2 H2) := by
  refine ⟨by omega, by omega, for_range Pv h0 (fun i σ H hi p => ?_) hd⟩
  have e : (0 : Int) + (i : Int) = (i : Int) := Int.zero_add _
  rw [e]
  exact hs i σ H (by omega) p
theorem int_item {ns : List Int} {i : Nat} {x : V} (h : (ns.map V.int)[i]? = some x) : ∃ n, x = .int n ∧ ns[i]? = some n := by
  rw [List.getElem?_map] at h
  cases e : ns[i]? with
  | none => rw [e] at h; cases h
  | some z => rw [e] at h; exact ⟨z, (Option.some.inj h).symm, rfl⟩
theorem atI_lt {xs : List V} {i : Int} (h0 : 0 ≤ i) (h1 : i < xs.length) : atI xs i = some (xs.getD i.toNat .non) := by
  have e2 : ((i.toNat : Nat) : Int) = i := by omega
  have h3 : i.toNat < xs.length := by omega
  have e3 : xs[i.toNat]? = some (xs.getD i.toNat .non) := by
    rw [List.getD_eq_getElem?_getD, List.getElem?_eq_getElem h3]
    rfl
  have e := atI_nat (xs := xs) e3
  rw [e2] at e
  exact e
theorem sIx_nat (n d k : Nat) : HT.sIx n d (some (k : Int)) = min k n := by
  unfold HT.sIx
  simp
  omega
theorem cutV_to (xs : List V) (k : Nat) : cutV xs none (some (k : Int)) = xs.take k := by
  unfold cutV
  rw [sIx_nat]
  show (xs.drop 0).take (min k xs.length - 0) = xs.take k
  rw [List.drop_zero, Nat.sub_zero]
  rcases Nat.le_total k xs.length with h | h
  · rw [Nat.min_eq_left h]
  · rw [Nat.min_eq_right h, List.take_of_length_le (Nat.le_refl _), List.take_of_length_le h]
theorem cutV_all (xs : List V) (k : Nat) (h : xs.length ≤ k) : cutV xs none (some (k : Int)) = xs := by
  rw [cutV_to, List.take_of_length_le h]
mutual
theorem dp_mono (e : Ex H H') : ∀ (d : PyData) (v : V), Dp K H v d → Dp K H' v d
  | .none, _, h => by cases h; exact .non
  | .bool b, _, h => by cases h; exact .bl b
  | .int i, _, h => by cases h; exact .int i
  | .str x, _, h => by cases h; exact .str x
  | .list ds, _, h => by
    cases h with
    | lst hs ha => exact .lst (ex_sq e hs) (dpAll_mono e ds _ ha)
  | .tuple ds, _, h => by
    cases h with
    | tup hs ha => exact .tup (ex_st e hs) (dpAll_mono e ds _ ha)
  | .dict _, _, h => by cases h
theorem dpAll_mono (e : Ex H H') : ∀ (ds : List PyData) (vs : List V), DpAll K H vs ds → DpAll K H' vs ds
  | [], _, h => by cases h; exact .nil
  | d :: ds, _, h => by
    cases h with
    | cons h1 h2 => exact .cons (dp_mono e d _ h1) (dpAll_mono e ds _ h2)
end
theorem w_eqD {d1 d2 : PyData} {b : Bool} (h1 : Dp K H x d1) (h2 : Dp K H y d2) (s1 : SeqAt.shaped d1 = true) (s2 : SeqAt.shaped d2 = true) (e : PyData.eqv d1 d2 = b) (q : Q (.bl b) H) : rEqD K x y H Q := ⟨d1, d2, h1, h2, s1, s2, e ▸ q⟩
theorem w_neD {d1 d2 : PyData} {b : Bool} (h1 : Dp K H x d1) (h2 : Dp K H y d2) (s1 : SeqAt.shaped d1 = true) (s2 : SeqAt.shaped d2 = true) (e : PyData.eqv d1 d2 = b) (q : Q (.bl (!b)) H) : rNeD K x y H Q := ⟨d1, d2, h1, h2, s1, s2, e ▸ q⟩
theorem eqv_self {d : PyData} (h : SeqAt.shaped d = true) : PyData.eqv d d = true := by
  unfold SeqAt.shaped at h
  exact SeqAt.eqv_refl d (by simp at h; exact h.1)
theorem w_lc {wi : TI} {vs : List Nat} (q : wi σ H fun J H1 => ∀ D, H1 D = none → ∃ W : Nat → Nat → Hp → Prop, (∃ m, W 0 m (upd H1 D (.lst []))) ∧ ∀ i m H, W i m H →
  (J.stop i H ∧ Q (.ref D) H) ∨ (J.go i H ∧ ∃ Nx : Hp → Prop, (∀ H', Nx H' → ∃ m', m' < m ∧ W (i + 1) m' H') ∧ ∀ x H', J.yld i H x H' → g x (wipe σ vs) H' fun σ2 H2 => wipe σ2 vs = wipe σ vs ∧ t σ2 H2 fun b H3 =>
    if b = true then te σ2 H3 fun y H4 => ∃ acc, H4 D = some (.lst acc) ∧ acc.length < sizeLine ∧ Nx (upd H4 D (.lst (acc ++ [y]))) else Nx H3)) : tLc wi g t te vs σ H Q := q
theorem lc_fil {J : It} {n : Nat} {G : Hp → Prop} {Y : Nat → Hp → V → Hp → Prop} (w : Walk J n G Y) {vs : List Nat} {H1 : Hp} {Qd : Addr → Hp → Prop} (hn : n ≤ 1000000) (f : Nat → Option V) (hG : ∀ H', Ex H1 H' → G H') (hY : ∀ i H x H', i < n → Y i H x H' → Ex H H')
    (hs : ∀ i x H H', i < n → Ex H1 H → Y i H x H' → ∀ (R : V → Hp → Prop) (S : Hp → Prop), (∀ H4, Ex H' H4 → ∀ v, f i = some v → R v H4) → (∀ H4, Ex H' H4 → f i = none → S H4) →
      g x (wipe σ vs) H' fun σ2 H2 => wipe σ2 vs = wipe σ vs ∧ t σ2 H2 fun b H3 => if b = true then te σ2 H3 R else S H3)
    (hq : ∀ D H', H1 D = none → Ex H1 H' → H' D = some (.lst ((List.range n).filterMap f)) → Qd D H') :
    ∀ D, H1 D = none → ∃ W : Nat → Nat → Hp → Prop, (∃ m, W 0 m (upd H1 D (.lst []))) ∧ ∀ i m H, W i m H →
      (J.stop i H ∧ Qd D H) ∨ (J.go i H ∧ ∃ Nx : Hp → Prop, (∀ H', Nx H' → ∃ m', m' < m ∧ W (i + 1) m' H') ∧ ∀ x H', J.yld i H x H' → g x (wipe σ vs) H' fun σ2 H2 => wipe σ2 vs = wipe σ vs ∧ t σ2 H2 fun b H3 =>
        if b = true then te σ2 H3 fun y H4 => ∃ acc, H4 D = some (.lst acc) ∧ acc.length < sizeLine ∧ Nx (upd H4 D (.lst (acc ++ [y]))) else Nx H3) := by
  intro D hD
  have hlen : ∀ i, ((List.range i).filterMap f).length ≤ i := fun i => by
    have h := List.length_filterMap_le f (List.range i)
    rwa [List.length_range] at h
  refine lc_it w (fun i H => Ex H1 H ∧ H D = some (.lst ((List.range i).filterMap f))) ⟨Evl.Ex.new hD, upd_same⟩ (fun i H _ p => hG H p.1) ?_ (fun H p => hq D H hD p.1 p.2)
  rintro i x H H' hi ⟨e, p⟩ y
  have eY := hY i H x H' hi y
  refine hs i x H H' hi e y _ _ (fun H4 e4 v hv => ⟨_, e4 _ _ (eY _ _ p), ?_, ?_⟩) fun H4 e4 hv => ?_
  · have h1 := hlen i
    rw [sizeLine_eq]
    omega
  · refine ⟨Evl.Ex.mut ((e.trans eY).trans e4) hD, ?_⟩
    rw [upd_same, List.range_succ, List.filterMap_append]
    simp [hv]
  · refine ⟨(e.trans eY).trans e4, ?_⟩
    rw [e4 _ _ (eY _ _ p), List.range_succ, List.filterMap_append]
    simp [hv]
theorem lc_map {J : It} {n : Nat} {G : Hp → Prop} {Y : Nat → Hp → V → Hp → Prop} (w : Walk J n G Y) {vs : List Nat} {H1 : Hp} {Qd : Addr → Hp → Prop} (hn : n ≤ 1000000) (f : Nat → V) (hG : ∀ H', Ex H1 H' → G H') (hY : ∀ i H x H', i < n → Y i H x H' → Ex H H')
    (hs : ∀ i x H H', i < n → Ex H1 H → Y i H x H' → ∀ (R : V → Hp → Prop), (∀ H4, Ex H' H4 → R (f i) H4) → g x (wipe σ vs) H' fun σ2 H2 => wipe σ2 vs = wipe σ vs ∧ te σ2 H2 R)
    (hq : ∀ D H', H1 D = none → Ex H1 H' → H' D = some (.lst ((List.range n).map f)) → Qd D H') (hg : ∀ x σ H (P P' : L2.St → Hp → Prop), (∀ σ H, P σ H → P' σ H) → g x σ H P → g x σ H P') :
    ∀ D, H1 D = none → ∃ W : Nat → Nat → Hp → Prop, (∃ m, W 0 m (upd H1 D (.lst []))) ∧ ∀ i m H, W i m H →
      (J.stop i H ∧ Qd D H) ∨ (J.go i H ∧ ∃ Nx : Hp → Prop, (∀ H', Nx H' → ∃ m', m' < m ∧ W (i + 1) m' H') ∧ ∀ x H', J.yld i H x H' → g x (wipe σ vs) H' fun σ2 H2 => wipe σ2 vs = wipe σ vs ∧ tYes σ2 H2 fun b H3 =>
        if b = true then te σ2 H3 fun y H4 => ∃ acc, H4 D = some (.lst acc) ∧ acc.length < sizeLine ∧ Nx (upd H4 D (.lst (acc ++ [y]))) else Nx H3) := by
  refine lc_fil w hn (fun i => some (f i)) hG hY (fun i x H H' hi e y R S hR _ => ?_) fun D H' hD e p => hq D H' hD e ?_
  · refine hg _ _ _ _ _ (fun σ2 H2 z => ?_) (hs i x H H' hi e y R fun H4 e4 => hR H4 e4 _ rfl)
    exact ⟨z.1, (iteT z.2 : if true = true then te σ2 H2 R else S H2)⟩
  · rw [p]
    congr 2
    induction n with
    | zero => rfl
    | succ n ih => simp
theorem mono_gn (i : Nat) : ∀ x σ H (P P' : L2.St → Hp → Prop), (∀ σ H, P σ H → P' σ H) → gName i x σ H P → gName i x σ H P' := fun _ _ _ _ _ h q => h _ _ q
theorem small_of {n m : Nat} (h : n ≤ m) (h2 : m ≤ 1000000) : n ≤ sizeLine := by rw [sizeLine_eq]; omega
theorem str_len_app (a b : Str) : (a ++ b).length = a.length + b.length := Array.size_append
theorem sign_len (c : Nat) : (⟨#[c]⟩ : Str).length = 1 := rfl
theorem len_toList (z : Str) : z.cps.toList.length = z.length := Array.length_toList
theorem atI_ltN {l : List Nat} {i : Int} (h0 : 0 ≤ i) (h1 : i < l.length) : atI l i = some (l.getD i.toNat 0) := by
  have e2 : ((i.toNat : Nat) : Int) = i := by omega
  have h3 : i.toNat < l.length := by omega
  have e3 : l[i.toNat]? = some (l.getD i.toNat 0) := by
    rw [List.getD_eq_getElem?_getD, List.getElem?_eq_getElem h3]
    rfl
  have e := atI_nat (xs := l) e3
  rw [e2] at e
  exact e
theorem w_ixSn {z : Str} {i : Int} (h : z.length ≤ sizeLine) (h0 : 0 ≤ i) (h1 : i < z.length) (q : Q (.str ⟨#[z.cps.toList.getD i.toNat 0]⟩) H) : rIxS (.str z) (.int i) H Q :=
  w_ixS h (atI_ltN h0 (by rw [len_toList]; exact h1)) q
def rMulS : R2 := fun x y H Q => ∃ i n, x = .str i ∧ y = .int n ∧ 0 ≤ n ∧ n ≤ 1000 ∧ i.length ≤ 1000 ∧ ∀ z : Str, z.length ≤ i.length * n.toNat → Q (.str z) H
abbrev aMulS := tOp rMulS
theorem rep_size (x : Array Nat) : ∀ (n : Nat) (a : Array Nat), ((List.replicate n x).foldl (· ++ ·) a).size = a.size + n * x.size
  | 0, a => by simp
  | n + 1, a => by
    rw [List.replicate_succ, List.foldl_cons, rep_size x n (a ++ x), Array.size_append, Nat.succ_mul]
    omega
theorem op_mulS {X : Cx} : OpR X (binaryOp .Mult) rMulS := by
  intro pins s σ H x y v u Q I rx ry h
  obtain ⟨i, n, rfl, rfl, h0, h1, hi, q⟩ := h
  obtain ⟨t, rfl⟩ := rx
  obtain ⟨t', rfl⟩ := ry
  have hm : i.length * n.toNat ≤ 1000000 := by
    have := Nat.mul_le_mul hi (show n.toNat ≤ 1000 by omega)
    omega
  refine PySem.P.mul_str ?_ ?_ ?_ ?_
  · rw [decide_eq_false (by omega), decide_eq_false (by omega)]; rfl
  · intro h2 _ h3
    have h4 : 1 ≤ n := by omega
    have h5 : (2 ^ 63 - 1) / n ≥ (2 ^ 63 - 1) / 1000 := by
      have : n * ((2 ^ 63 - 1) / 1000) ≤ 2 ^ 63 - 1 := by
        have := Int.mul_le_mul_of_nonneg_right h1 (show (0 : Int) ≤ (2 ^ 63 - 1) / 1000 by decide)
        omega
      exact (Int.le_ediv_iff_mul_le (by omega)).mpr (by rw [Int.mul_comm]; exact this)
    have h6 : ((2 ^ 63 - 1) / 1000 : Int) > 1000 := by decide
    omega
  · intro _ _
    refine decide_eq_false ?_
    have := sizeLine_eq
    omega
  · split
    · exact ⟨by decide, .str Str.empty, H, I.tok _, ⟨_, rfl⟩, q _ (Nat.zero_le _)⟩
    · split
      · rename_i h2 h3
        rcases Bool.or_eq_true_iff.mp h3 with e | e
        · have e' : n = 1 := by simpa using e
          exact ⟨.str i, H, I, ⟨_, rfl⟩, q _ (by rw [e']; show i.length ≤ i.length * 1; omega)⟩
        · have e' : i.length = 0 := by simpa using e
          exact ⟨.str i, H, I, ⟨_, rfl⟩, q _ (by rw [e']; omega)⟩
      · have e := rep_size i.cps n.toNat #[]
        have e' : (⟨(List.replicate n.toNat i.cps).foldl (· ++ ·) #[]⟩ : Str).length = i.length * n.toNat := by
          show ((List.replicate n.toNat i.cps).foldl (· ++ ·) #[]).size = i.cps.size * n.toNat
          rw [e, Nat.mul_comm]; simp
        exact ⟨by rw [e', sizeLine_eq]; omega, .str _, H, I.tok _, ⟨_, rfl⟩, q _ (Nat.le_of_eq e')⟩
theorem w_m1 {r : V → List V → Hp → VK → Prop} (q : ta σ H fun x H1 => (∃ a, x = .str a) ∧ te σ H1 fun y H2 => r x [y] H2 Q) : tM1 r ta te σ H Q := q
theorem w_isS {a : Str} {B : Prop} (q : B) : (∃ b, V.str a = .str b) ∧ B := ⟨⟨a, rfl⟩, q⟩
theorem log_small {i : Int} (h0 : 0 ≤ i) (h : i < 2 ^ 1000) : i.natAbs.log2 < 1920 := by
  by_cases e : i.natAbs = 0
  · rw [e]; decide
  · rw [Nat.log2_lt e]
    have h1 : (i.natAbs : Int) = i := by omega
    have h2 : ((2 ^ 1000 : Nat) : Int) = (2 : Int) ^ 1000 := by norm_cast
    have h3 : i.natAbs < 2 ^ 1000 := by
      have : ((i.natAbs : Nat) : Int) < ((2 ^ 1000 : Nat) : Int) := by rw [h1, h2]; exact h
      exact Int.ofNat_lt.mp this
    exact Nat.lt_of_lt_of_le h3 (Nat.pow_le_pow_right (by decide) (by decide))
theorem w_strI {i : Int} (h : i.natAbs.log2 < 1920) (q : Q (.str (toString i)) H) : rStrI [.int i] H Q := ⟨i, rfl, h, q⟩
theorem w_strL {i : Int} (h0 : 0 ≤ i) (h : i < 2 ^ 1000) (q : ∀ z : Str, z.length ≤ 1921 → Q (.str z) H) : rStrI [.int i] H Q := w_strI (log_small h0 h) (q _ (PyProof.Rows.int_text_len_1921 (log_small h0 h)))
theorem w_mulS {z : Str} {n : Int} (h0 : 0 ≤ n) (h1 : n ≤ 1000) (hi : z.length ≤ 1000) (q : ∀ y : Str, y.length ≤ z.length * n.toNat → Q (.str y) H) : rMulS (.str z) (.int n) H Q := ⟨z, n, rfl, rfl, h0, h1, hi, q⟩
def rFld (K : PySem.W.Frag) (f : Str) (x : V) (H : Hp) (Q : VK) : Prop := ∃ a C dx fs v, x = .ref a ∧ H a = some (.ins C dx fs) ∧ Cls K C ∧ NoAttr K C f ∧ fs.lookup f = some v ∧ Q v H
theorem w_tFld {f : Str} (q : ta σ H fun x H1 => rFld K f x H1 Q) : tFld K ta f σ H Q := q
theorem w_fld {f : Str} {p C dx : Addr} {fs : List (Str × V)} (h : H p = some (.ins C dx fs)) (c : Cls K C) (n : NoAttr K C f) (l : fs.lookup f = some v) (q : Q v H) : rFld K f (.ref p) H Q := ⟨p, C, dx, fs, v, rfl, h, c, n, l, q⟩
def rSFld (K : PySem.W.Frag) (f : Str) (y x : V) (H : Hp) (R : Hp → Prop) : Prop := ∃ a C dx fs, x = .ref a ∧ H a = some (.ins C dx fs) ∧ Cls K C ∧ NoAttr K C f ∧ fs.length < 1000 ∧ R (upd H a (.ins C dx (putF f y fs)))
theorem w_sFld {f : Str} {tv : TE} (q : tv σ H fun y H1 => ta σ H1 fun x H2 => rSFld K f y x H2 fun H3 => D.nx σ H3) : sFld K ta tv f D σ H := q
theorem w_rsFld {f : Str} {p C dx : Addr} {fs fs' : List (Str × V)} {R : Hp → Prop} (h : H p = some (.ins C dx fs)) (c : Cls K C) (n : NoAttr K C f) (l : fs.length < 1000) (e : putF f y fs = fs') (q : R (upd H p (.ins C dx fs'))) : rSFld K f y (.ref p) H R :=
  ⟨p, C, dx, fs, rfl, h, c, n, l, e ▸ q⟩
def rDGet (x y : V) (H : Hp) (Q : VK) : Prop := ∃ a v, x = .ref a ∧ DGet H a y (some v) ∧ Q v H
theorem w_tDGet {td ty : TE} (q : td σ H fun x H1 => ty σ H1 fun y H2 => rDGet x y H2 Q) : tDGet td ty σ H Q := q
theorem w_dgetI {p : Addr} {kvs : List (Key × V)} {k : Int} (h : H p = some (.dK kvs)) (e : valV kvs (.inl k) = some v) (q : Q v H) : rDGet (.ref p) (.int k) H Q := ⟨p, v, rfl, e ▸ DGet.k (k := .inl k) h, q⟩
theorem w_dgetS {p : Addr} {kvs : List (Key × V)} {k : Str} (h : H p = some (.dK kvs)) (e : valV kvs (.inr k) = some v) (q : Q v H) : rDGet (.ref p) (.str k) H Q := ⟨p, v, rfl, e ▸ DGet.k (k := .inr k) h, q⟩
def rDIn (y x : V) (H : Hp) (Q : VK) : Prop := ∃ a o, x = .ref a ∧ DGet H a y o ∧ Q (.bl o.isSome) H
theorem w_tDIn {td ty : TE} (q : ty σ H fun y H1 => td σ H1 fun x H2 => rDIn y x H2 Q) : tDIn ty td σ H Q := q
theorem w_dinI {p : Addr} {kvs : List (Key × V)} {k : Int} (h : H p = some (.dK kvs)) (q : Q (.bl (valV kvs (.inl k)).isSome) H) : rDIn (.int k) (.ref p) H Q := ⟨p, _, rfl, DGet.k (k := .inl k) h, q⟩
def rDNotIn (y x : V) (H : Hp) (Q : VK) : Prop := ∃ a o, x = .ref a ∧ DGet H a y o ∧ Q (.bl (!o.isSome)) H
theorem w_tDNotIn {td ty : TE} (q : ty σ H fun y H1 => td σ H1 fun x H2 => rDNotIn y x H2 Q) : tDNotIn ty td σ H Q := q
def rDPut (v x y : V) (H : Hp) (R : Hp → Prop) : Prop := ∃ a H4, x = .ref a ∧ DPut H a y v H4 ∧ R H4
theorem w_sDPut {td ty tv : TE} (q : tv σ H fun v H1 => td σ H1 fun x H2 => ty σ H2 fun y H3 => rDPut v x y H3 fun H4 => D.nx σ H4) : sDPut td ty tv D σ H := q
theorem w_dputI {p : Addr} {kvs : List (Key × V)} {k : Int} {R : Hp → Prop} (h : H p = some (.dK kvs)) (l : kvs.length < sizeLine) (q : R (upd H p (.dK (putK kvs (.inl k) v)))) : rDPut v (.ref p) (.int k) H R := ⟨p, _, rfl, DPut.k (k := .inl k) h l, q⟩
theorem w_dputS {p : Addr} {kvs : List (Key × V)} {k : Str} {R : Hp → Prop} (h : H p = some (.dK kvs)) (l : kvs.length < sizeLine) (q : R (upd H p (.dK (putK kvs (.inr k) v)))) : rDPut v (.ref p) (.str k) H R := ⟨p, _, rfl, DPut.k (k := .inr k) h l, q⟩
theorem w_bm {T : String} {r : V → List V → Hp → VK → Prop} {t : TA} (q : te σ H fun x H1 => tyV K T x H1 ∧ t σ H1 fun xs H2 => r x xs H2 Q) : tBM K T r te t σ H Q := q
theorem w_bm0 {T : String} {r : V → List V → Hp → VK → Prop} (q : te σ H fun x H1 => tyV K T x H1 ∧ r x [] H1 Q) : tBM0 K T r te σ H Q := q
theorem w_tyL {p : Addr} {xs : List V} {B : Prop} (h : SqL K H p xs) (q : B) : tyV K "list" (.ref p) H ∧ B := ⟨.inl ⟨rfl, xs, h⟩, q⟩
theorem w_app {l : Addr} {xs : List V} (h : H l = some (.lst xs)) (hl : xs.length < sizeLine) (q : Q .non (upd H l (.lst (xs ++ [y])))) : rAppend (.ref l) [y] H Q := ⟨l, xs, y, rfl, rfl, h, hl, q⟩
theorem w_pop {l : Addr} {xs : List V} (h : H l = some (.lst (xs ++ [y]))) (q : Q y (upd H l (.lst xs))) : rPop (.ref l) [] H Q := ⟨l, xs ++ [y], y, rfl, rfl, h, by simp, by rw [List.dropLast_concat]; exact q⟩
theorem w_ext {l b : Addr} {xs zs : List V} (h : H l = some (.lst xs)) (hb : H b = some (.lst zs)) (hl : xs.length + zs.length ≤ sizeLine) (q : Q .non (upd H l (.lst (xs ++ zs)))) : rExtend (.ref l) [.ref b] H Q := ⟨l, b, xs, zs, rfl, rfl, h, hb, hl, q⟩
theorem w_clr {l : Addr} {xs : List V} (h : H l = some (.lst xs)) (q : Q .non (upd H l (.lst []))) : rClear (.ref l) [] H Q := ⟨l, xs, rfl, rfl, h, q⟩
def rRev (K : PySem.W.Frag) (vs : List V) (H : Hp) (R : It → Hp → Prop) : Prop := ∃ (a : Addr) (xs : List V), vs = [.ref a] ∧ SqL K H a xs ∧ R (Itv K a xs.length) H
theorem w_iRev {ta : TA} {R : It → Hp → Prop} (q : ta σ H fun vs H1 => rRev K vs H1 R) : iRev K ta σ H R := q
theorem w_rev1 {p : Addr} {xs : List V} {R : It → Hp → Prop} (h : SqL K H p xs) (q : R (Itv K p xs.length) H) : rRev K [.ref p] H R := ⟨p, xs, rfl, h, q⟩
def rItems (x : V) (H : Hp) (R : It → Hp → Prop) : Prop := ∃ d o kvs, x = .ref d ∧ H d = some (.frz o (.dK kvs)) ∧ R (Iti d o kvs) H
theorem w_iItems {R : It → Hp → Prop} (q : te σ H fun x H1 => rItems x H1 R) : iItems te σ H R := q
theorem w_items1 {p : Addr} {o : Obj} {kvs : List (Key × V)} {R : It → Hp → Prop} (h : H p = some (.frz o (.dK kvs))) (q : R (Iti p o kvs) H) : rItems (.ref p) H R := ⟨p, o, kvs, rfl, h, q⟩
def rKeys (x : V) (H : Hp) (R : It → Hp → Prop) : Prop := ∃ d o, x = .ref d ∧ ((∃ kvs, H d = some (.frz o (.dK kvs)) ∧ R (Itk d o kvs) H) ∨ ∃ kvs, H d = some (.frz o (.dT kvs)) ∧ R (Itkt d o kvs) H)
theorem w_iKeys {R : It → Hp → Prop} (q : te σ H fun x H1 => rKeys x H1 R) : iKeys te σ H R := q
theorem w_keys1 {p : Addr} {o : Obj} {kvs : List (Key × V)} {R : It → Hp → Prop} (h : H p = some (.frz o (.dK kvs))) (q : R (Itk p o kvs) H) : rKeys (.ref p) H R := ⟨p, o, rfl, .inl ⟨kvs, h, q⟩⟩
def rRng3 (vs : List V) (H : Hp) (R : It → Hp → Prop) : Prop := ∃ (i j c : Int) (n : Nat), vs = [.int i, .int j, .int c] ∧ RgC i j c n ∧ R (Itc i c n) H
theorem w_iRng3 {ta : TA} {R : It → Hp → Prop} (q : ta σ H fun vs H1 => rRng3 vs H1 R) : iRng3 ta σ H R := q
def rZip (K : PySem.W.Frag) (vs : List V) (H : Hp) (R : It → Hp → Prop) : Prop := ∃ a b xs ys, vs = [.ref a, .ref b] ∧ SqL K H a xs ∧ SqL K H b ys ∧ R (Itz K a b) H
theorem w_iZip {ta : TA} {R : It → Hp → Prop} (q : ta σ H fun vs H1 => rZip K vs H1 R) : iZip K ta σ H R := q
theorem w_zip1 {p q : Addr} {xs ys : List V} {R : It → Hp → Prop} (h : SqL K H p xs) (h2 : SqL K H q ys) (k : R (Itz K p q) H) : rZip K [.ref p, .ref q] H R := ⟨p, q, xs, ys, rfl, h, h2, k⟩
theorem w_gCons {u : TGs} {x : V} {xs : List V} {Q : L2.St → Hp → Prop} (q : g x σ H fun σ' H' => u xs σ' H' Q) : gCons g u (x :: xs) σ H Q := ⟨x, xs, rfl, q⟩
theorem w_gNil {Q : L2.St → Hp → Prop} (q : Q σ H) : gNil [] σ H Q := ⟨rfl, q⟩
theorem w_gTup {n : Nat} {u : TGs} {p : Addr} {xs : List V} {Q : L2.St → Hp → Prop} (h : SqT K H p xs) (l : xs.length = n) (q : u xs σ H Q) : gTup K n u (.ref p) σ H Q := ⟨p, xs, rfl, h, l, q⟩
theorem w_sortD {p : Addr} {kvs : List (Key × V)} {ks : List Int} (h : H p = some (.dK kvs)) (e : kvs.map (·.1) = ks.map Sum.inl) (l : ks.length < 64) (q : ∀ (ys : List Int) (p : Addr), ys.Perm ks → ys.Pairwise (· ≤ ·) → H p = none → Q (.ref p) (upd H p (.lst (ys.map V.int)))) : rSortedD [.ref p] H Q :=
  ⟨p, kvs, ks, rfl, .inl h, e, l, q⟩
theorem w_lock (q : ∃ d u, H d = some u ∧ Mut (some u) ∧ ∀ od, ts ⟨fun σ' H' => H' d = some (.frz od u) ∧ D.nx σ' (upd H' d u), fun v H' => H' d = some (.frz od u) ∧ D.rt v (upd H' d u), fun σ' H' => H' d = some (.frz od u) ∧ D.bk σ' (upd H' d u), fun σ' H' => H' d = some (.frz od u) ∧ D.ct σ' (upd H' d u)⟩ σ (upd H d (.frz od u))) : tLock ts D σ H := q
def del (H : Hp) (p : Addr) : Hp := fun a => if a = p then none else H a
theorem del_same {p : Addr} : del H p p = none := by unfold del; rw [if_pos rfl]
theorem del_ne {p a : Addr} (h : a ≠ p) : del H p a = H a := by unfold del; rw [if_neg h]
theorem del_ex {p : Addr} : Ex (del H p) H := fun a o h => by
  by_cases e : a = p
  · subst e; rw [del_same] at h; cases h
  · rwa [del_ne e] at h
theorem del_mono {p : Addr} (e : Ex H H') : Ex (del H p) (del H' p) := fun a o h => by
  by_cases q : a = p
  · subst q; rw [del_same] at h; cases h
  · rw [del_ne q] at h ⊢; exact e a o h
theorem del_upd {p : Addr} {o : HO} : del (upd H p o) p = del H p := by
  funext a
  by_cases q : a = p
  · subst q; rw [del_same, del_same]
  · rw [del_ne q, del_ne q, upd_ne q]
theorem ex_del {p : Addr} (e : Ex H H') (h : H p = none) : Ex H (del H' p) := fun a o q => by
  rw [del_ne (ne_of_none q h)]; exact e a o q
theorem lc_relF {J : It} {n : Nat} {G : Hp → Prop} {Y : Nat → Hp → V → Hp → Prop} (w : Walk J n G Y) {vs : List Nat} {H1 : Hp} {Qd : Addr → Hp → Prop} (hn : n ≤ 1000000) (p : Nat → Bool) (Rl : Nat → V → Hp → Prop) (mono : ∀ i v H H', Ex H H' → Rl i v H → Rl i v H')
    (hG : ∀ H', Ex H1 H' → G H') (hY : ∀ i H x H', i < n → Y i H x H' → Ex H H')
    (hs : ∀ D i x H H', H1 D = none → i < n → Ex H1 (del H D) → (∃ o, H D = some o) → Y i H x H' → ∀ (R : V → Hp → Prop) (S : Hp → Prop), (∀ v H4, Ex H' H4 → p i = true → Rl i v (del H4 D) → R v H4) → (∀ H4, Ex H' H4 → p i = false → S H4) →
      g x (wipe σ vs) H' fun σ2 H2 => wipe σ2 vs = wipe σ vs ∧ t σ2 H2 fun b H3 => if b = true then te σ2 H3 R else S H3)
    (hq : ∀ D H' xs, H1 D = none → Ex H1 H' → H' D = some (.lst xs) → xs.length = ((List.range n).filter p).length → (∀ (j : Nat) (v : V) (i : Nat), xs[j]? = some v → ((List.range n).filter p)[j]? = some i → Rl i v (del H' D)) → Qd D H') :
    ∀ D, H1 D = none → ∃ W : Nat → Nat → Hp → Prop, (∃ m, W 0 m (upd H1 D (.lst []))) ∧ ∀ i m H, W i m H →
      (J.stop i H ∧ Qd D H) ∨ (J.go i H ∧ ∃ Nx : Hp → Prop, (∀ H', Nx H' → ∃ m', m' < m ∧ W (i + 1) m' H') ∧ ∀ x H', J.yld i H x H' → g x (wipe σ vs) H' fun σ2 H2 => wipe σ2 vs = wipe σ vs ∧ t σ2 H2 fun b H3 =>
        if b = true then te σ2 H3 fun y H4 => ∃ acc, H4 D = some (.lst acc) ∧ acc.length < sizeLine ∧ Nx (upd H4 D (.lst (acc ++ [y]))) else Nx H3) := by
  intro D hD
  have hlen : ∀ i, ((List.range i).filter p).length ≤ i := fun i => by
    have h := List.length_filter_le p (List.range i)
    rwa [List.length_range] at h
  refine lc_it w (fun i H => Ex H1 (del H D) ∧ ∃ xs, H D = some (.lst xs) ∧ xs.length = ((List.range i).filter p).length ∧ ∀ (j : Nat) (v : V) (k : Nat), xs[j]? = some v → ((List.range i).filter p)[j]? = some k → Rl k v (del H D)) ⟨ex_del (Evl.Ex.new hD) hD, [], upd_same, rfl, fun j v k h => by simp at h⟩ (fun i H _ q => hG H (q.1.trans del_ex)) ?_
    (fun H q => by obtain ⟨e, xs, h1, h2, h3⟩ := q; exact hq D H xs hD (e.trans del_ex) h1 h2 h3)
  rintro i x H H' hi ⟨e, xs, h1, h2, h3⟩ y
  have eY := hY i H x H' hi y
  have hl := hlen i
  refine hs D i x H H' hD hi e ⟨_, h1⟩ y _ _ (fun v H4 e4 hp hv => ?_) fun H4 e4 hp => ?_
  · have er : (List.range (i + 1)).filter p = (List.range i).filter p ++ [i] := by rw [List.range_succ, List.filter_append]; simp [hp]
    refine ⟨xs, e4 _ _ (eY _ _ h1), by rw [sizeLine_eq]; omega, by rw [del_upd]; exact e.trans (del_mono (eY.trans e4)), xs ++ [v], upd_same, by rw [er]; simp [h2], fun j v' k hj hk => ?_⟩
    rw [del_upd]
    rw [er] at hk
    by_cases q : j < xs.length
    · rw [List.getElem?_append_left q] at hj
      rw [List.getElem?_append_left (by omega)] at hk
      exact mono k v' _ _ (del_mono (eY.trans e4)) (h3 j v' k hj hk)
    · have q2 : j = xs.length := by
        have := (List.getElem?_eq_some_iff.mp hj).1
        simp at this; omega
      subst q2
      have e5 : v = v' := by simpa using hj
      rw [h2] at hk
      have e6 : i = k := by simpa using hk
      subst e5 e6
      exact hv
  · have er : (List.range (i + 1)).filter p = (List.range i).filter p := by rw [List.range_succ, List.filter_append]; simp [hp]
    refine ⟨e.trans (del_mono (eY.trans e4)), xs, e4 _ _ (eY _ _ h1), by rw [er]; exact h2, fun j v' k hj hk => ?_⟩
    rw [er] at hk
    exact mono k v' _ _ (del_mono (eY.trans e4)) (h3 j v' k hj hk)
theorem filter_yes (n : Nat) : (List.range n).filter (fun _ => true) = List.range n := List.filter_eq_self.mpr fun _ _ => rfl
theorem lc_rel {J : It} {n : Nat} {G : Hp → Prop} {Y : Nat → Hp → V → Hp → Prop} (w : Walk J n G Y) {vs : List Nat} {H1 : Hp} {Qd : Addr → Hp → Prop} (hn : n ≤ 1000000) (Rl : Nat → V → Hp → Prop) (mono : ∀ i v H H', Ex H H' → Rl i v H → Rl i v H')
    (hG : ∀ H', Ex H1 H' → G H') (hY : ∀ i H x H', i < n → Y i H x H' → Ex H H')
    (hs : ∀ D i x H H', H1 D = none → i < n → Ex H1 (del H D) → (∃ o, H D = some o) → Y i H x H' → ∀ (R : V → Hp → Prop), (∀ v H4, Ex H' H4 → Rl i v (del H4 D) → R v H4) → g x (wipe σ vs) H' fun σ2 H2 => wipe σ2 vs = wipe σ vs ∧ te σ2 H2 R)
    (hq : ∀ D H' xs, H1 D = none → Ex H1 H' → H' D = some (.lst xs) → xs.length = n → (∀ (i : Nat) (v : V), xs[i]? = some v → Rl i v (del H' D)) → Qd D H') (hg : ∀ x σ H (P P' : L2.St → Hp → Prop), (∀ σ H, P σ H → P' σ H) → g x σ H P → g x σ H P') :
    ∀ D, H1 D = none → ∃ W : Nat → Nat → Hp → Prop, (∃ m, W 0 m (upd H1 D (.lst []))) ∧ ∀ i m H, W i m H →
      (J.stop i H ∧ Qd D H) ∨ (J.go i H ∧ ∃ Nx : Hp → Prop, (∀ H', Nx H' → ∃ m', m' < m ∧ W (i + 1) m' H') ∧ ∀ x H', J.yld i H x H' → g x (wipe σ vs) H' fun σ2 H2 => wipe σ2 vs = wipe σ vs ∧ tYes σ2 H2 fun b H3 =>
        if b = true then te σ2 H3 fun y H4 => ∃ acc, H4 D = some (.lst acc) ∧ acc.length < sizeLine ∧ Nx (upd H4 D (.lst (acc ++ [y]))) else Nx H3) := by
  refine lc_relF w hn (fun _ => true) Rl mono hG hY (fun D i x H H' h1 hi e hD y R S hR _ => ?_) fun D H' xs hD e h1 h2 h3 => ?_
  · refine hg _ _ _ _ _ (fun σ2 H2 z => ?_) (hs D i x H H' h1 hi e hD y R fun v H4 e4 hv => hR v H4 e4 rfl hv)
    exact ⟨z.1, iteT (B := S H2) z.2⟩
  · rw [filter_yes, List.length_range] at h2
    refine hq D H' xs hD e h1 h2 fun i v hv => h3 i v i hv ?_
    have := (List.getElem?_eq_some_iff.mp hv).1
    rw [filter_yes]
    exact List.getElem?_range (by omega)
theorem ne2 {a b : Addr} {o : HO} (h' : H b = none) (h : H a = some o) : a ≠ b := ne_of_none h h'
theorem ne2s {a b : Addr} {o : HO} (h' : H b = none) (h : H a = some o) : b ≠ a := Ne.symm (ne_of_none h h')
theorem up_ne {a b : Addr} {o u : HO} (h : b ≠ a) (h2 : H b = some u) : upd H a o b = some u := by rw [upd_ne h]; exact h2
theorem ne_head {a b : Addr} {l : List Addr} (h : a ∉ b :: l) : a ≠ b := fun e => h (e ▸ List.mem_cons_self)
theorem not_tail {a b : Addr} {l : List Addr} (h : a ∉ b :: l) : a ∉ l := fun m => h (List.mem_cons_of_mem _ m)
theorem putF_nil {f : Str} : putF f v [] = [(f, v)] := rfl
theorem putF_hit {f : Str} {w : V} {r : List (Str × V)} : putF f v ((f, w) :: r) = (f, v) :: r := by
  show (if f = f then _ else _) = _
  rw [if_pos rfl]
theorem putF_miss {f k : Str} {w : V} {r r' : List (Str × V)} (h : ¬ k = f) (e : putF f v r = r') : putF f v ((k, w) :: r) = (k, w) :: r' := by
  show (if k = f then _ else (k, w) :: putF f v r) = _
  rw [if_neg h, e]
theorem ty_list {p : Addr} {xs : List V} (h : SqL K H p xs) : TyX K H (.ref p) (.type "list") := by
  rcases h with (h | ⟨o, h⟩) | ⟨o, its, n, hk, hc, _⟩
  · exact .base (.lst h)
  · exact .base (.frz h)
  · exact .kList hk hc
theorem ty_tup {p : Addr} {xs : List V} (h : SqT K H p xs) : TyX K H (.ref p) (.type "tuple") := by
  rcases h with (h | ⟨o, h⟩) | ⟨o, its, n, hk, hc, _⟩
  · exact .base (.tup h)
  · exact .fTuple h
  · exact .kTuple hk hc
theorem w_isiSL {n : String} {b : Bool} {p : Addr} {xs : List V} (h : SqL K H p xs) (e : kitB "list" n = some b) (q : Q (.bl b) H) : rIsi K [.ref p, .ty n] H Q := w_isi (.ty n) (ty_list h) (kit_ty e) q
theorem w_isiST {n : String} {b : Bool} {p : Addr} {xs : List V} (h : SqT K H p xs) (e : kitB "tuple" n = some b) (q : Q (.bl b) H) : rIsi K [.ref p, .ty n] H Q := w_isi (.ty n) (ty_tup h) (kit_ty e) q
theorem w_ixAL {p : Addr} {xs : List V} {i : Int} (h : SqL K H p xs) (a : atI xs i = some v) (q : Q v H) : rIx K (.ref p) (.int i) H Q := .inl (w_ixL h a q)
theorem w_ixAT {p : Addr} {xs : List V} {i : Int} (h : SqT K H p xs) (a : atI xs i = some v) (q : Q v H) : rIx K (.ref p) (.int i) H Q := .inr (.inl (w_ixT h a q))
theorem fnok_no {P : Program} {w : World} {mg : Str → Option Value} {base : Heap} {CX : CXT} {k : Nat} {f : Addr} {fd : FuncData} {ps : List Str} {sp : Sp} (h : ∀ vs H Q E, ¬ sp vs H Q E) : FnOk P w K mg base CX k f fd ps sp :=
  ⟨fun vs H Q E q => (h vs H Q E q).elim, fun _ _ _ H _ _ vs Q E _ _ _ _ q => (h vs H Q E q).elim⟩
theorem menu_item {xs : List V} {i : Int} {P : V → Prop} (h0 : 0 ≤ i) (h1 : i < xs.length) (h : ∀ x ∈ xs, P x) : ∃ v, atI xs i = some v ∧ P v :=
  ⟨_, atI_lt h0 h1, by
    rw [List.getD_eq_getElem?_getD, List.getElem?_eq_getElem (by omega)]
    exact h _ (List.getElem_mem _)⟩
end
end RT

set_option Elab.async false
set_option linter.all false
set_option maxRecDepth 100000
set_option maxHeartbeats 2000000
set_option autoImplicit false
namespace RT
open PySem L2
inductive D where
  | raw (v : V) | lst (ds : List D) | tup (ds : List D) | obj (C : Addr) (ns : List Str) (ds : List D) | scr (ns : List Int)
abbrev D.int (i : Int) : D := .raw (.int i)
abbrev D.str (s : Str) : D := .raw (.str s)
abbrev D.bl (b : Bool) : D := .raw (.bl b)
abbrev D.non : D := .raw .non
abbrev D.ptr (a : Addr) : D := .raw (.ref a)
inductive Cell where
  | lst (ds : List D) | dct (kvs : List (Key × D)) | ins (C : Addr) (fs : List (Str × D)) | lock (o : Obj) (u : HO) (kvs : List (Key × D))
abbrev Wd := Addr → Option Cell
abbrev Env := List (Option D)
mutual
inductive Rep (K : PySem.W.Frag) (S : Hp) : V → D → Prop
  | raw (v : V) : Rep K S v (.raw v)
  | lst {a : Addr} {xs : List V} {ds : List D} (h : S a = some (.lst xs)) (hs : Reps K S xs ds) : Rep K S (.ref a) (.lst ds)
  | tup {a : Addr} {xs : List V} {ds : List D} (h : SqT K S a xs) (hs : Reps K S xs ds) : Rep K S (.ref a) (.tup ds)
  | obj {a C dx : Addr} {ns : List Str} {xs : List V} {ds : List D} (h : S a = some (.ins C dx (ns.zip xs))) (hl : ns.length = xs.length) (hs : Reps K S xs ds) : Rep K S (.ref a) (.obj C ns ds)
  | scr {a : Addr} {ns : List Int} (h : SqL K S a (ns.map V.int)) : Rep K S (.ref a) (.scr ns)
inductive Reps (K : PySem.W.Frag) (S : Hp) : List V → List D → Prop
  | nil : Reps K S [] []
  | cons {v : V} {vs : List V} {d : D} {ds : List D} (h : Rep K S v d) (t : Reps K S vs ds) : Reps K S (v :: vs) (d :: ds)
end
section
variable {K : PySem.W.Frag}
mutual
theorem Rep.mono {S S' : Hp} (e : Ex S S') : ∀ {v : V} {d : D}, Rep K S v d → Rep K S' v d
  | _, _, .raw v => .raw v
  | _, _, .lst h hs => .lst (e _ _ h) (Reps.mono e hs)
  | _, _, .tup h hs => .tup (ex_st e h) (Reps.mono e hs)
  | _, _, .obj h hl hs => .obj (e _ _ h) hl (Reps.mono e hs)
  | _, _, .scr h => .scr (ex_sq e h)
theorem Reps.mono {S S' : Hp} (e : Ex S S') : ∀ {vs : List V} {ds : List D}, Reps K S vs ds → Reps K S' vs ds
  | _, _, .nil => .nil
  | _, _, .cons h t => .cons (Rep.mono e h) (Reps.mono e t)
end
variable {S S' : Hp}
theorem Reps.len {vs : List V} {ds : List D} (h : Reps K S vs ds) : vs.length = ds.length := by
  induction vs generalizing ds with
  | nil => cases h; rfl
  | cons v vs ih => cases h with | cons h t => simp [ih t]
theorem Reps.get : ∀ {vs : List V} {ds : List D} {i : Nat} {d : D}, Reps K S vs ds → ds[i]? = some d → ∃ v, vs[i]? = some v ∧ Rep K S v d
  | _, _, _, _, .nil, e => by simp at e
  | _, _, 0, _, .cons h _, e => by simp at e; subst e; exact ⟨_, rfl, h⟩
  | _, _, i + 1, d, .cons _ t, e => by
    obtain ⟨v, h1, h2⟩ := Reps.get (i := i) (d := d) t (by simpa using e)
    exact ⟨v, by simpa using h1, h2⟩
theorem Reps.get' {vs : List V} {ds : List D} {i : Nat} {v : V} (h : Reps K S vs ds) (e : vs[i]? = some v) : ∃ d, ds[i]? = some d ∧ Rep K S v d := by
  have hi := (List.getElem?_eq_some_iff.mp e).1
  rw [h.len] at hi
  obtain ⟨w, h1, h2⟩ := h.get (List.getElem?_eq_getElem hi)
  rw [e] at h1; cases h1
  exact ⟨_, List.getElem?_eq_getElem hi, h2⟩
theorem Reps.app {vs ws : List V} {ds es : List D} (h : Reps K S vs ds) (k : Reps K S ws es) : Reps K S (vs ++ ws) (ds ++ es) := by
  induction vs generalizing ds with
  | nil => cases h; exact k
  | cons v vs ih => cases h with | cons h t => exact .cons h (ih t)
theorem Reps.take {vs : List V} {ds : List D} (h : Reps K S vs ds) (n : Nat) : Reps K S (vs.take n) (ds.take n) := by
  induction n generalizing vs ds with
  | zero => simp; exact .nil
  | succ n ih => cases h with | nil => simp; exact .nil | cons h t => simp; exact .cons h (ih t)
theorem Reps.drop {vs : List V} {ds : List D} (h : Reps K S vs ds) (n : Nat) : Reps K S (vs.drop n) (ds.drop n) := by
  induction n generalizing vs ds with
  | zero => simpa using h
  | succ n ih => cases h with | nil => simp; exact .nil | cons h t => simpa using ih t
theorem Reps.set {vs : List V} {ds : List D} {v : V} {d : D} (h : Reps K S vs ds) (k : Rep K S v d) (n : Nat) : Reps K S (vs.set n v) (ds.set n d) := by
  induction n generalizing vs ds with
  | zero => cases h with | nil => simp; exact .nil | cons h t => simp; exact .cons k t
  | succ n ih => cases h with | nil => simp; exact .nil | cons h t => simp; exact .cons h (ih t)
theorem Reps.raws : ∀ vs : List V, Reps K S vs (vs.map D.raw)
  | [] => .nil
  | v :: vs => .cons (.raw v) (Reps.raws vs)
theorem Reps.rawsI {vs : List V} {ds : List D} {α : Type} {f : α → V} {l : List α} (h : Reps K S vs ds) (e : ds = l.map fun x => D.raw (f x)) : vs = l.map f := by
  subst e
  induction l generalizing vs with
  | nil => cases h; rfl
  | cons a l ih => cases h with | cons h t => cases h; rw [List.map_cons, ih t]
inductive RepP {κ : Type} (K : PySem.W.Frag) (S : Hp) : List (κ × V) → List (κ × D) → Prop
  | nil : RepP K S [] []
  | cons {k : κ} {v : V} {d : D} {r : List (κ × V)} {q : List (κ × D)} (h : Rep K S v d) (t : RepP K S r q) : RepP K S ((k, v) :: r) ((k, d) :: q)
section
variable {κ : Type} {r : List (κ × V)} {q : List (κ × D)}
theorem RepP.mono (e : Ex S S') (h : RepP K S r q) : RepP K S' r q := by
  induction h with
  | nil => exact .nil
  | cons h _ ih => exact .cons (h.mono e) ih
theorem RepP.len (h : RepP K S r q) : r.length = q.length := by
  induction h with
  | nil => rfl
  | cons h _ ih => simp [ih]
theorem RepP.look [BEq κ] (h : RepP K S r q) {k : κ} {d : D} (e : q.lookup k = some d) : ∃ v, r.lookup k = some v ∧ Rep K S v d := by
  induction h with
  | nil => cases e
  | cons h _ ih =>
    rename_i k' v d' r q _
    rw [List.lookup_cons] at e ⊢
    split at e
    · cases e; exact ⟨v, rfl, h⟩
    · exact ih e
theorem RepP.lookN [BEq κ] (h : RepP K S r q) {k : κ} (e : q.lookup k = none) : r.lookup k = none := by
  induction h with
  | nil => rfl
  | cons h _ ih =>
    rename_i k' v d' r q _
    rw [List.lookup_cons] at e ⊢
    split at e
    · cases e
    · exact ih e
end
inductive CellR (K : PySem.W.Frag) (S : Hp) : HO → Cell → Prop
  | lst {xs : List V} {ds : List D} (h : Reps K S xs ds) : CellR K S (.lst xs) (.lst ds)
  | dct {r : List (Key × V)} {q : List (Key × D)} (h : RepP K S r q) : CellR K S (.dK r) (.dct q)
  | ins {C dx : Addr} {r : List (Str × V)} {q : List (Str × D)} (h : RepP K S r q) : CellR K S (.ins C dx r) (.ins C q)
  | lock {o : Obj} {r : List (Key × V)} {q : List (Key × D)} (h : RepP K S r q) : CellR K S (.frz o (.dK r)) (.lock o (.dK r) q)
theorem CellR.mono (e : Ex S S') {o : HO} {c : Cell} : CellR K S o c → CellR K S' o c
  | .lst h => .lst (h.mono e)
  | .dct h => .dct (h.mono e)
  | .ins h => .ins (h.mono e)
  | .lock h => .lock (h.mono e)
def wset (W : Wd) (a : Addr) (c : Cell) : Wd := fun b => if b = a then some c else W b
def wer (W : Wd) (a : Addr) : Wd := fun b => if b = a then none else W b
section
variable {W W' : Wd} {a b : Addr} {c c' : Cell}
theorem ws_same : wset W a c a = some c := by unfold wset; rw [if_pos rfl]
theorem ws_ne (h : b ≠ a) : wset W a c b = W b := by unfold wset; rw [if_neg h]
theorem we_same : wer W a a = none := by unfold wer; rw [if_pos rfl]
theorem we_ne (h : b ≠ a) : wer W a b = W b := by unfold wer; rw [if_neg h]
theorem ws_ws : wset (wset W a c) a c' = wset W a c' := by
  funext b; unfold wset; split <;> rfl
theorem ws_comm (h : a ≠ b) : wset (wset W a c) b c' = wset (wset W b c') a c := by
  funext x; unfold wset
  by_cases h1 : x = a
  · subst h1; rw [if_neg h, if_pos rfl, if_pos rfl]
  · rw [if_neg h1, if_neg h1]
theorem we_ws (h : W a = none) : wer (wset W a c) a = W := by
  funext x; unfold wer wset
  by_cases h1 : x = a
  · subst h1; rw [if_pos rfl, h]
  · rw [if_neg h1, if_neg h1]
theorem we_wsne (h : b ≠ a) : wer (wset W b c) a = wset (wer W a) b c := by
  funext x; unfold wer wset
  by_cases h1 : x = a
  · subst h1; simp [Ne.symm h]
  · simp [h1]
theorem we_none (h : W a = none) : wer W a = W := by
  funext x; unfold wer
  by_cases h1 : x = a
  · subst h1; rw [if_pos rfl, h]
  · rw [if_neg h1]
theorem ws_id (h : W a = some c) : wset W a c = W := by
  funext x; unfold wset
  by_cases h1 : x = a
  · subst h1; rw [if_pos rfl, h]
  · rw [if_neg h1]
theorem ne_w {a b : Addr} (h : W a = some c) (h' : W b = none) : a ≠ b := by
  intro e; subst e; rw [h] at h'; cases h'
def Sub (W W' : Wd) : Prop := ∀ a c, W a = some c → W' a = some c
theorem Sub.refl (W : Wd) : Sub W W := fun _ _ h => h
theorem Sub.trans {W1 W2 W3 : Wd} (a : Sub W1 W2) (b : Sub W2 W3) : Sub W1 W3 := fun x c h => b x c (a x c h)
theorem Sub.new (s : Sub W W') (h : W a = none) : Sub W (wset W' a c) := fun x d q => by rw [ws_ne (ne_w q h)]; exact s x d q
theorem Sub.er (s : Sub W W') (h : W a = none) : Sub W (wer W' a) := fun x d q => by rw [we_ne (ne_w q h)]; exact s x d q
theorem Sub.set (s : Sub W W') : Sub (wset W a c) (wset W' a c) := fun x d q => by
  by_cases h : x = a
  · subst h; rw [ws_same] at q ⊢; exact q
  · rw [ws_ne h] at q ⊢; exact s x d q
theorem Sub.has (s : Sub W W') (h : W' a = some c) : Sub (wset W a c) W' := fun x d q => by
  by_cases e : x = a
  · subst e; rw [ws_same] at q; rw [h]; exact q
  · rw [ws_ne e] at q; exact s x d q
theorem Sub.wer : Sub (wer W a) W := fun x d q => by
  by_cases e : x = a
  · subst e; rw [we_same] at q; cases q
  · rw [we_ne e] at q; exact q
end
structure Sta (K : PySem.W.Frag) (B : Hp) (W : Wd) (H : Hp) : Prop where
  ex : Ex B H
  own : ∀ a c, W a = some c → B a = none ∧ ∃ o, H a = some o ∧ CellR K B o c
section
variable {B B' H H' : Hp} {W W' : Wd} {a p : Addr} {o : HO} {c c' : Cell}
theorem Sta.nnone (s : Sta K B W H) (h : H p = none) : W p = none := by
  cases e : W p with
  | none => rfl
  | some c => obtain ⟨_, o, h2, _⟩ := s.own p c e; rw [h] at h2; cases h2
theorem Sta.new (s : Sta K B W H) (h : H p = none) (r : CellR K B o c) : Sta K B (wset W p c) (upd H p o) := by
  refine ⟨s.ex.trans (Evl.Ex.new h), fun x d q => ?_⟩
  by_cases e : x = p
  · subst e; rw [ws_same] at q; cases q
    exact ⟨ex_free s.ex h, o, upd_same, r⟩
  · rw [ws_ne e] at q
    rw [upd_ne e]
    exact s.own x d q
theorem Sta.newB (s : Sta K B W H) (h : H p = none) : Sta K (upd B p o) W (upd H p o) ∧ Ex B (upd B p o) := by
  have hb := ex_free s.ex h
  have e : Ex B (upd B p o) := Evl.Ex.new hb
  refine ⟨⟨fun x u q => ?_, fun x d q => ?_⟩, e⟩
  · by_cases z : x = p
    · subst z; rw [upd_same] at q ⊢; exact q
    · rw [upd_ne z] at q ⊢; exact s.ex x u q
  · obtain ⟨h1, u, h2, h3⟩ := s.own x d q
    have z : x ≠ p := ne_of_none h2 h
    exact ⟨by rw [upd_ne z]; exact h1, u, by rw [upd_ne z]; exact h2, h3.mono e⟩
theorem Sta.set (s : Sta K B W H) (h : W a = some c') (r : CellR K B o c) : Sta K B (wset W a c) (upd H a o) := by
  obtain ⟨h1, _⟩ := s.own a c' h
  refine ⟨Evl.Ex.mut s.ex h1, fun x d q => ?_⟩
  by_cases e : x = a
  · subst e; rw [ws_same] at q; cases q
    exact ⟨h1, o, upd_same, r⟩
  · rw [ws_ne e] at q
    rw [upd_ne e]
    exact s.own x d q
theorem Sta.frz (s : Sta K B W H) (h : W a = some c) (h2 : H a = some o) : Sta K (upd B a o) (wer W a) H ∧ Ex B (upd B a o) := by
  obtain ⟨h1, _⟩ := s.own a c h
  have e : Ex B (upd B a o) := Evl.Ex.new h1
  refine ⟨⟨fun x u q => ?_, fun x d q => ?_⟩, e⟩
  · by_cases z : x = a
    · subst z; rw [upd_same] at q; rw [h2]; exact q
    · rw [upd_ne z] at q; exact s.ex x u q
  · by_cases z : x = a
    · subst z; rw [we_same] at q; cases q
    · rw [we_ne z] at q
      obtain ⟨g1, u, g2, g3⟩ := s.own x d q
      exact ⟨by rw [upd_ne z]; exact g1, u, g2, g3.mono e⟩
theorem Sta.sub (s : Sta K B W H) (h : Sub W' W) : Sta K B W' H := ⟨s.ex, fun x d q => s.own x d (h x d q)⟩
theorem Sta.lst (s : Sta K B W H) {ds : List D} (h : W a = some (.lst ds)) : ∃ xs, H a = some (.lst xs) ∧ Reps K B xs ds := by
  obtain ⟨_, o, h1, h2⟩ := s.own a _ h
  cases h2 with | lst h2 => exact ⟨_, h1, h2⟩
theorem Sta.dct (s : Sta K B W H) {q : List (Key × D)} (h : W a = some (.dct q)) : ∃ r, H a = some (.dK r) ∧ RepP K B r q := by
  obtain ⟨_, o, h1, h2⟩ := s.own a _ h
  cases h2 with | dct h2 => exact ⟨_, h1, h2⟩
theorem Sta.ins (s : Sta K B W H) {C : Addr} {q : List (Str × D)} (h : W a = some (.ins C q)) : ∃ dx r, H a = some (.ins C dx r) ∧ RepP K B r q := by
  obtain ⟨_, o, h1, h2⟩ := s.own a _ h
  cases h2 with | ins h2 => exact ⟨_, _, h1, h2⟩
end
structure EnvR (K : PySem.W.Frag) (B : Hp) (σ : L2.St) (e : Env) : Prop where
  len : σ.length = e.length
  at' : ∀ (i : Nat) (d : D), e[i]? = some (some d) → ∃ v, σ[i]? = some (some v) ∧ Rep K B v d
section
variable {B B' : Hp} {σ : L2.St} {e e' : Env}
theorem EnvR.mono (x : Ex B B') (h : EnvR K B σ e) : EnvR K B' σ e := ⟨h.len, fun i d q => by
  obtain ⟨v, h1, h2⟩ := h.at' i d q
  exact ⟨v, h1, h2.mono x⟩⟩
theorem EnvR.set (h : EnvR K B σ e) {i : Nat} {v : V} {d : D} (r : Rep K B v d) : EnvR K B (σ.set i (some v)) (e.set i (some d)) := ⟨by simp [h.len], fun j d' q => by
  by_cases z : i = j
  · subst z
    rw [List.getElem?_set] at q ⊢
    simp only [if_true] at q ⊢
    rw [h.len]
    split at q
    · cases q; rename_i hl; rw [if_pos hl]; exact ⟨v, rfl, r⟩
    · cases q
  · rw [List.getElem?_set_ne z] at q ⊢
    exact h.at' j d' q⟩
theorem EnvR.wipe1 (h : EnvR K B σ e) {i : Nat} {x : Option V} : EnvR K B (σ.set i x) (e.set i none) := ⟨by simp [h.len], fun j d' q => by
  by_cases z : i = j
  · subst z
    rw [List.getElem?_set] at q
    simp only [if_true] at q
    split at q <;> cases q
  · rw [List.getElem?_set_ne z] at q ⊢
    exact h.at' j d' q⟩
def EnvLe (e e' : Env) : Prop := e.length = e'.length ∧ ∀ (i : Nat) (d : D), e[i]? = some (some d) → e'[i]? = some (some d)
theorem EnvLe.refl (e : Env) : EnvLe e e := ⟨rfl, fun _ _ h => h⟩
theorem EnvR.le (h : EnvR K B σ e) (l : EnvLe e' e) : EnvR K B σ e' := ⟨by rw [h.len, l.1], fun i d q => h.at' i d (l.2 i d q)⟩
theorem EnvLe.cons {x y : Option D} {e e' : Env} (h : x = y ∨ x = none) (t : EnvLe e e') : EnvLe (x :: e) (y :: e') := ⟨by simp [t.1], fun i d q => by
  cases i with
  | zero =>
    rcases h with rfl | rfl
    · exact q
    · simp at q
  | succ i => simp at q ⊢; exact t.2 i d q⟩
theorem EnvLe.nil : EnvLe [] [] := .refl _
end
end
abbrev KD := D → Wd → Prop
structure DE where
  nx : Env → Wd → Prop
  rt : KD
  bk : Env → Wd → Prop := fun _ _ => False
  ct : Env → Wd → Prop := fun _ _ => False
def WE (K : PySem.W.Frag) (te : TE) (e : Env) (W : Wd) (Q : KD) : Prop :=
  ∀ (B : Hp) (σ : L2.St) (H : Hp) (k : VK), Sta K B W H → EnvR K B σ e → (∀ v B' H' d W', Ex B B' → Sta K B' W' H' → Rep K B' v d → Q d W' → k v H') → te σ H k
def WA (K : PySem.W.Frag) (ta : TA) (e : Env) (W : Wd) (Q : List D → Wd → Prop) : Prop :=
  ∀ (B : Hp) (σ : L2.St) (H : Hp) (k : List V → Hp → Prop), Sta K B W H → EnvR K B σ e → (∀ vs B' H' ds W', Ex B B' → Sta K B' W' H' → Reps K B' vs ds → Q ds W' → k vs H') → ta σ H k
def WT (K : PySem.W.Frag) (tt : TT) (e : Env) (W : Wd) (Q : Bool → Wd → Prop) : Prop :=
  ∀ (B : Hp) (σ : L2.St) (H : Hp) (k : Bool → Hp → Prop), Sta K B W H → EnvR K B σ e → (∀ b B' H' W', Ex B B' → Sta K B' W' H' → Q b W' → k b H') → tt σ H k
def WO (K : PySem.W.Frag) (to : TO) (e : Env) (W : Wd) (Q : Option Int → Wd → Prop) : Prop :=
  ∀ (B : Hp) (σ : L2.St) (H : Hp) (k : Option Int → Hp → Prop), Sta K B W H → EnvR K B σ e → (∀ b B' H' W', Ex B B' → Sta K B' W' H' → Q b W' → k b H') → to σ H k
def WS (K : PySem.W.Frag) (ts : TS) (e : Env) (W : Wd) (E : DE) : Prop :=
  ∀ (Dn : Ends) (B : Hp) (σ : L2.St) (H : Hp), Sta K B W H → EnvR K B σ e →
    (∀ σ' B' H' e' W', Ex B B' → Sta K B' W' H' → EnvR K B' σ' e' → E.nx e' W' → Dn.nx σ' H') →
    (∀ v B' H' d W', Ex B B' → Sta K B' W' H' → Rep K B' v d → E.rt d W' → Dn.rt v H') →
    (∀ σ' B' H' e' W', Ex B B' → Sta K B' W' H' → EnvR K B' σ' e' → E.bk e' W' → Dn.bk σ' H') →
    (∀ σ' B' H' e' W', Ex B B' → Sta K B' W' H' → EnvR K B' σ' e' → E.ct e' W' → Dn.ct σ' H') → ts Dn σ H
def WG (K : PySem.W.Frag) (tg : TG) (x : D) (e : Env) (W : Wd) (Q : Env → Wd → Prop) : Prop :=
  ∀ (B : Hp) (σ : L2.St) (H : Hp) (v : V) (k : L2.St → Hp → Prop), Sta K B W H → EnvR K B σ e → Rep K B v x → (∀ σ' B' H' e' W', Ex B B' → Sta K B' W' H' → EnvR K B' σ' e' → Q e' W' → k σ' H') → tg v σ H k
def WGs (K : PySem.W.Frag) (tg : TGs) (xs : List D) (e : Env) (W : Wd) (Q : Env → Wd → Prop) : Prop :=
  ∀ (B : Hp) (σ : L2.St) (H : Hp) (vs : List V) (k : L2.St → Hp → Prop), Sta K B W H → EnvR K B σ e → Reps K B vs xs → (∀ σ' B' H' e' W', Ex B B' → Sta K B' W' H' → EnvR K B' σ' e' → Q e' W' → k σ' H') → tg vs σ H k
def RD (K : PySem.W.Frag) (r : R2) (x y : D) (W : Wd) (Q : KD) : Prop :=
  ∀ (B H : Hp) (v w : V) (k : VK), Sta K B W H → Rep K B v x → Rep K B w y → (∀ v B' H' d W', Ex B B' → Sta K B' W' H' → Rep K B' v d → Q d W' → k v H') → r v w H k
def RU (K : PySem.W.Frag) (r : V → Hp → VK → Prop) (x : D) (W : Wd) (Q : KD) : Prop :=
  ∀ (B H : Hp) (v : V) (k : VK), Sta K B W H → Rep K B v x → (∀ v B' H' d W', Ex B B' → Sta K B' W' H' → Rep K B' v d → Q d W' → k v H') → r v H k
def RC (K : PySem.W.Frag) (r : List V → Hp → VK → Prop) (xs : List D) (W : Wd) (Q : KD) : Prop :=
  ∀ (B H : Hp) (vs : List V) (k : VK), Sta K B W H → Reps K B vs xs → (∀ v B' H' d W', Ex B B' → Sta K B' W' H' → Rep K B' v d → Q d W' → k v H') → r vs H k
abbrev PF := List D → Wd → KD → Prop
def lift (K : PySem.W.Frag) (p : PF) : Sp := fun vs H Q _ => ∃ B W ds Q0, Sta K B W H ∧ Reps K B vs ds ∧ p ds W Q0 ∧ ∀ v B' H' d W', Ex B B' → Sta K B' W' H' → Rep K B' v d → Q0 d W' → Q v H'
def FzQ (Q : KD) : KD := fun d W => Q d W ∨ (∃ a ds, d = .ptr a ∧ W a = some (.lst ds) ∧ Q (.lst ds) (wer W a)) ∨ ∃ a C fs, d = .ptr a ∧ W a = some (.ins C fs) ∧ Q (.obj C (fs.map (·.1)) (fs.map (·.2))) (wer W a)
def SubQ (Q : KD) : KD := fun d W => ∃ W', Sub W' W ∧ Q d W'
def Nx (I : Env → Wd → Prop) : Env → Wd → Prop := fun e W => ∃ e' W', EnvLe e' e ∧ Sub W' W ∧ I e' W'
section
variable {K : PySem.W.Frag} {e : Env} {W : Wd} {te ta tb tx ty : TE} {Q : KD} {ts tu tw : TS} {E : DE} {x y z d : D} {i : Nat}
theorem zip_fs {S : Hp} {r : List (Str × V)} {q : List (Str × D)} (h : RepP K S r q) : ∃ xs, r = (q.map (·.1)).zip xs ∧ (q.map (·.1)).length = xs.length ∧ Reps K S xs (q.map (·.2)) := by
  induction h with
  | nil => exact ⟨[], rfl, rfl, .nil⟩
  | cons h _ ih =>
    obtain ⟨xs, h1, h2, h3⟩ := ih
    rename_i k v d r q _
    exact ⟨v :: xs, by simp [h1], by simpa using h2, .cons h h3⟩
theorem fz_sem {B H : Hp} {v : V} {k : VK} (s : Sta K B W H) (r : Rep K B v d) (q : FzQ Q d W) (hk : ∀ v B' H' d W', Ex B B' → Sta K B' W' H' → Rep K B' v d → Q d W' → k v H') : k v H := by
  rcases q with q | ⟨a, ds, rfl, h, q⟩ | ⟨a, C, fs, rfl, h, q⟩
  · exact hk v B H d W (Evl.Ex.refl _) s r q
  · obtain ⟨xs, h1, h2⟩ := s.lst h
    obtain ⟨s2, e2⟩ := s.frz h h1
    cases r
    exact hk _ _ H _ _ e2 s2 (.lst upd_same (h2.mono e2)) q
  · obtain ⟨dx, r', h1, h2⟩ := s.ins h
    obtain ⟨xs, rfl, h3, h4⟩ := zip_fs h2
    obtain ⟨s2, e2⟩ := s.frz h h1
    cases r
    exact hk _ _ H _ _ e2 s2 (.obj upd_same h3 (h4.mono e2)) q
theorem we_fz (q : WE K te e W (FzQ Q)) : WE K te e W Q := fun B σ H k s r hk =>
  q B σ H k s r fun v B' H' d W' e1 s1 r1 q1 => fz_sem s1 r1 q1 fun v2 B2 H2 d2 W2 e2 s2 r2 q2 => hk v2 B2 H2 d2 W2 (e1.trans e2) s2 r2 q2
theorem we_sub {W' : Wd} (h : Sub W' W) (q : WE K te e W' Q) : WE K te e W Q := fun B σ H k s r hk => q B σ H k (s.sub h) r hk
theorem we_subq (q : WE K te e W (SubQ Q)) : WE K te e W Q := fun B σ H k s r hk =>
  q B σ H k s r fun v B' H' d W' e1 s1 r1 q1 => by
    obtain ⟨W2, h2, q2⟩ := q1
    exact hk v B' H' d W2 e1 (s1.sub h2) r1 q2
theorem we_mono {Q' : KD} (q : WE K te e W Q') (h : ∀ d W, Q' d W → Q d W) : WE K te e W Q := fun B σ H k s r hk => q B σ H k s r fun v B' H' d W' e1 s1 r1 q1 => hk v B' H' d W' e1 s1 r1 (h d W' q1)
theorem we_var (h : e[i]? = some (some d)) (q : Q d W) : WE K (tVar i) e W Q := fun B σ H k s r hk => by
  obtain ⟨v, h1, h2⟩ := r.at' i d h
  exact ⟨v, h1, hk v B H d W (Evl.Ex.refl _) s h2 q⟩
theorem we_c {v : V} (q : Q (.raw v) W) : WE K (tC v) e W Q := fun B σ H k s r hk => hk v B H _ W (Evl.Ex.refl _) s (.raw v) q
theorem we_op {r : R2} (q : WE K ta e W fun x W1 => WE K tb e W1 fun y W2 => RD K r x y W2 Q) : WE K (tOp r ta tb) e W Q := fun B σ H k s r hk =>
  q B σ H _ s r fun v B1 H1 d W1 e1 s1 r1 q1 => q1 B1 σ H1 _ s1 (r.mono e1) fun w B2 H2 d2 W2 e2 s2 r2 q2 => q2 B2 H2 v w k s2 (r1.mono e2) r2 fun u B3 H3 d3 W3 e3 s3 r3 q3 => hk u B3 H3 d3 W3 ((e1.trans e2).trans e3) s3 r3 q3
theorem we_un {r : V → Hp → VK → Prop} (q : WE K ta e W fun x W1 => RU K r x W1 Q) : WE K (tUn r ta) e W Q := fun B σ H k s r hk =>
  q B σ H _ s r fun v B1 H1 d W1 e1 s1 r1 q1 => q1 B1 H1 v k s1 r1 fun u B3 H3 d3 W3 e3 s3 r3 q3 => hk u B3 H3 d3 W3 (e1.trans e3) s3 r3 q3
theorem rd_raw {r : R2} {a b c : V} (h : ∀ (H : Hp) (k : VK), k c H → r a b H k) (q : Q (.raw c) W) : RD K r (.raw a) (.raw b) W Q := fun B H v w k s r1 r2 hk => by
  cases r1; cases r2
  exact h H k (hk c B H _ W (Evl.Ex.refl _) s (.raw c) q)
theorem ru_raw {r : V → Hp → VK → Prop} {a c : V} (h : ∀ (H : Hp) (k : VK), k c H → r a H k) (q : Q (.raw c) W) : RU K r (.raw a) W Q := fun B H v k s r1 hk => by
  cases r1
  exact h H k (hk c B H _ W (Evl.Ex.refl _) s (.raw c) q)
theorem rc_raw1 {r : List V → Hp → VK → Prop} {a c : V} (h : ∀ (H : Hp) (k : VK), k c H → r [a] H k) (q : Q (.raw c) W) : RC K r [.raw a] W Q := fun B H v k s r1 hk => by
  cases r1 with
  | cons r1 r2 =>
    cases r1; cases r2
    exact h H k (hk c B H _ W (Evl.Ex.refl _) s (.raw c) q)
theorem rc_raw2 {r : List V → Hp → VK → Prop} {a b c : V} (h : ∀ (H : Hp) (k : VK), k c H → r [a, b] H k) (q : Q (.raw c) W) : RC K r [.raw a, .raw b] W Q := fun B H v k s r1 hk => by
  cases r1 with
  | cons r1 r2 =>
    cases r1
    cases r2 with
    | cons r2 r3 =>
      cases r2; cases r3
      exact h H k (hk c B H _ W (Evl.Ex.refl _) s (.raw c) q)
theorem d_i0 {f : Int → Int → V} {a b : Int} (q : Q (.raw (f a b)) W) : RD K (rI0 f) (.raw (.int a)) (.raw (.int b)) W Q := rd_raw (fun _ _ => w_i0) q
theorem d_i {C : Int → Int → Prop} {f : Int → Int → V} {a b : Int} (hc : C a b) (q : Q (.raw (f a b)) W) : RD K (rI C f) (.raw (.int a)) (.raw (.int b)) W Q := rd_raw (fun _ _ => w_i hc) q
theorem d_u {f : Int → V} {a : Int} (q : Q (.raw (f a)) W) : RU K (rU f) (.raw (.int a)) W Q := ru_raw (fun _ _ => w_u) q
theorem d_eqI {a b : Int} (q : Q (.raw (.bl (dB (a = b)))) W) : RD K rEq (.raw (.int a)) (.raw (.int b)) W Q := rd_raw (fun _ _ => w_eqI) q
theorem d_neI {a b : Int} (q : Q (.raw (.bl (!dB (a = b)))) W) : RD K rNe (.raw (.int a)) (.raw (.int b)) W Q := rd_raw (fun _ _ => w_neI) q
theorem d_eqS {a b : Str} (q : Q (.raw (.bl (dB (a = b)))) W) : RD K rEq (.raw (.str a)) (.raw (.str b)) W Q := rd_raw (fun _ _ => w_eqS) q
theorem d_neS {a b : Str} (q : Q (.raw (.bl (!dB (a = b)))) W) : RD K rNe (.raw (.str a)) (.raw (.str b)) W Q := rd_raw (fun _ _ => w_neS) q
theorem d_eq {a b : V} (h : scal a b = true) (q : Q (.raw (.bl (dB (a = b)))) W) : RD K rEq (.raw a) (.raw b) W Q := rd_raw (fun _ _ => w_eq h) q
theorem d_ne {a b : V} (h : scal a b = true) (q : Q (.raw (.bl (!dB (a = b)))) W) : RD K rNe (.raw a) (.raw b) W Q := rd_raw (fun _ _ => w_ne h) q
theorem d_lt {a b : Int} (q : Q (.raw (.bl (dB (a < b)))) W) : RD K rLt (.raw (.int a)) (.raw (.int b)) W Q := rd_raw (fun _ _ => w_lt) q
theorem d_le {a b : Int} (q : Q (.raw (.bl (dB (a ≤ b)))) W) : RD K rLe (.raw (.int a)) (.raw (.int b)) W Q := rd_raw (fun _ _ => w_le) q
theorem d_gt {a b : Int} (q : Q (.raw (.bl (dB (b < a)))) W) : RD K rGt (.raw (.int a)) (.raw (.int b)) W Q := rd_raw (fun _ _ => w_gt) q
theorem d_ge {a b : Int} (q : Q (.raw (.bl (dB (b ≤ a)))) W) : RD K rGe (.raw (.int a)) (.raw (.int b)) W Q := rd_raw (fun _ _ => w_ge) q
theorem d_ltS {a b : Str} (q : Q (.raw (.bl (dB (a.cps.toList < b.cps.toList)))) W) : RD K rLtS (.raw (.str a)) (.raw (.str b)) W Q := rd_raw (fun _ _ => w_ltS) q
theorem d_leS {a b : Str} (q : Q (.raw (.bl (!dB (b.cps.toList < a.cps.toList)))) W) : RD K rLeS (.raw (.str a)) (.raw (.str b)) W Q := rd_raw (fun _ _ => w_leS) q
theorem d_gtS {a b : Str} (q : Q (.raw (.bl (dB (b.cps.toList < a.cps.toList)))) W) : RD K rGtS (.raw (.str a)) (.raw (.str b)) W Q := rd_raw (fun _ _ => w_gtS) q
theorem d_geS {a b : Str} (q : Q (.raw (.bl (!dB (a.cps.toList < b.cps.toList)))) W) : RD K rGeS (.raw (.str a)) (.raw (.str b)) W Q := rd_raw (fun _ _ => w_geS) q
theorem d_addS {a b : Str} (h : a.length + b.length ≤ sizeLine) (q : Q (.raw (.str (a ++ b))) W) : RD K rAddS (.raw (.str a)) (.raw (.str b)) W Q := rd_raw (fun _ _ => w_addS h) q
theorem d_inS {c : Nat} {w : Str} (q : Q (.raw (.bl (dB (c ∈ w.cps.toList)))) W) : RD K rInS (.raw (.str ⟨#[c]⟩)) (.raw (.str w)) W Q := rd_raw (fun _ _ => w_inS) q
theorem d_ninS {c : Nat} {w : Str} (q : Q (.raw (.bl (!dB (c ∈ w.cps.toList)))) W) : RD K rNotInS (.raw (.str ⟨#[c]⟩)) (.raw (.str w)) W Q := rd_raw (fun _ _ => w_ninS) q
theorem d_isNN (q : Q (.raw (.bl true)) W) : RD K rIsN (.raw .non) (.raw .non) W Q := rd_raw (fun _ _ => w_isNN) q
theorem d_isNI {a : Int} (q : Q (.raw (.bl false)) W) : RD K rIsN (.raw (.int a)) (.raw .non) W Q := rd_raw (fun _ _ => w_isNI) q
theorem d_isNS {a : Str} (q : Q (.raw (.bl false)) W) : RD K rIsN (.raw (.str a)) (.raw .non) W Q := rd_raw (fun _ _ => w_isNS) q
theorem d_isNR {a : Addr} (q : Q (.raw (.bl false)) W) : RD K rIsN (.raw (.ref a)) (.raw .non) W Q := rd_raw (fun _ _ => w_isNR) q
theorem d_notNN (q : Q (.raw (.bl false)) W) : RD K rNotN (.raw .non) (.raw .non) W Q := rd_raw (fun _ _ => w_notNN) q
theorem d_notNI {a : Int} (q : Q (.raw (.bl true)) W) : RD K rNotN (.raw (.int a)) (.raw .non) W Q := rd_raw (fun _ _ => w_notNI) q
theorem d_notNS {a : Str} (q : Q (.raw (.bl true)) W) : RD K rNotN (.raw (.str a)) (.raw .non) W Q := rd_raw (fun _ _ => w_notNS) q
theorem d_notNR {a : Addr} (q : Q (.raw (.bl true)) W) : RD K rNotN (.raw (.ref a)) (.raw .non) W Q := rd_raw (fun _ _ => w_notNR) q
theorem rep_ref {B : Hp} {v : V} (h : Rep K B v d) (n : ∀ w, d ≠ .raw w) : ∃ a, v = .ref a := by
  cases h with
  | raw v => exact (n v rfl).elim
  | lst h hs => exact ⟨_, rfl⟩
  | tup h hs => exact ⟨_, rfl⟩
  | obj h hl hs => exact ⟨_, rfl⟩
  | scr h => exact ⟨_, rfl⟩
theorem d_isND (n : ∀ w, d ≠ .raw w) (q : Q (.raw (.bl false)) W) : RD K rIsN d (.raw .non) W Q := fun B H v w k s r1 r2 hk => by
  cases r2
  obtain ⟨a, rfl⟩ := rep_ref r1 n
  exact w_isNR (hk _ B H _ W (Evl.Ex.refl _) s (.raw _) q)
theorem d_notND (n : ∀ w, d ≠ .raw w) (q : Q (.raw (.bl true)) W) : RD K rNotN d (.raw .non) W Q := fun B H v w k s r1 r2 hk => by
  cases r2
  obtain ⟨a, rfl⟩ := rep_ref r1 n
  exact w_notNR (hk _ B H _ W (Evl.Ex.refl _) s (.raw _) q)
variable {t u : TT} {QB : Bool → Wd → Prop}
theorem we_test (q : WE K te e W fun x W' => ∃ b, x = .raw (.bl b) ∧ QB b W') : WT K (tTest te) e W QB := fun B σ H k s r hk =>
  q B σ H _ s r fun v B1 H1 d W1 e1 s1 r1 q1 => by
    obtain ⟨b, rfl, q1⟩ := q1
    cases r1
    exact ⟨b, rfl, hk b B1 H1 W1 e1 s1 q1⟩
theorem we_tB (q : WE K te e W fun x W' => ∃ b, x = .raw (.bl b) ∧ QB b W') : WT K (tB te) e W QB := fun B σ H k s r hk =>
  q B σ H _ s r fun v B1 H1 d W1 e1 s1 r1 q1 => by
    obtain ⟨b, rfl, q1⟩ := q1
    cases r1
    exact ⟨b, rfl, hk b B1 H1 W1 e1 s1 q1⟩
theorem we_bl {b : Bool} {P : Bool → Prop} (q : P b) : ∃ c, D.raw (.bl b) = .raw (.bl c) ∧ P c := ⟨b, rfl, q⟩
theorem we_and (q : WT K t e W fun c W1 => if c = true then WT K u e W1 QB else QB false W1) : WT K (tAnd t u) e W QB := fun B σ H k s r hk =>
  q B σ H _ s r fun c B1 H1 W1 e1 s1 q1 => by
    cases c with
    | true => exact (iteT ((show WT K u e W1 QB from q1) B1 σ H1 k s1 (r.mono e1) fun b B2 H2 W2 e2 s2 q2 => hk b B2 H2 W2 (e1.trans e2) s2 q2) : if true = true then _ else k false H1)
    | false => exact (iteF (hk false B1 H1 W1 e1 s1 q1) : if false = true then u σ H1 k else _)
theorem we_or (q : WT K t e W fun c W1 => if c = true then QB true W1 else WT K u e W1 QB) : WT K (tOr t u) e W QB := fun B σ H k s r hk =>
  q B σ H _ s r fun c B1 H1 W1 e1 s1 q1 => by
    cases c with
    | false => exact (iteF ((show WT K u e W1 QB from q1) B1 σ H1 k s1 (r.mono e1) fun b B2 H2 W2 e2 s2 q2 => hk b B2 H2 W2 (e1.trans e2) s2 q2) : if false = true then k true H1 else _)
    | true => exact (iteT (hk true B1 H1 W1 e1 s1 q1) : if true = true then _ else u σ H1 k)
theorem we_not (q : WT K t e W fun c W1 => QB (!c) W1) : WT K (tNot t) e W QB := fun B σ H k s r hk => q B σ H _ s r fun c B1 H1 W1 e1 s1 q1 => hk (!c) B1 H1 W1 e1 s1 q1
theorem we_andV (q : WE K ta e W fun x W1 => ∃ c, x = .raw (.bl c) ∧ if c = true then WE K tb e W1 Q else Q (.raw (.bl false)) W1) : WE K (tAndV ta tb) e W Q := fun B σ H k s r hk =>
  q B σ H _ s r fun v B1 H1 d W1 e1 s1 r1 q1 => by
    obtain ⟨c, rfl, q1⟩ := q1
    cases r1
    refine ⟨c, rfl, ?_⟩
    cases c with
    | true => exact (iteT ((show WE K tb e W1 Q from q1) B1 σ H1 k s1 (r.mono e1) fun b B2 H2 d2 W2 e2 s2 r2 q2 => hk b B2 H2 d2 W2 (e1.trans e2) s2 r2 q2) : if true = true then _ else k (.bl false) H1)
    | false => exact (iteF (hk _ B1 H1 _ W1 e1 s1 (.raw _) q1) : if false = true then tb σ H1 k else _)
theorem we_orV (q : WE K ta e W fun x W1 => ∃ c, x = .raw (.bl c) ∧ if c = true then Q (.raw (.bl true)) W1 else WE K tb e W1 Q) : WE K (tOrV ta tb) e W Q := fun B σ H k s r hk =>
  q B σ H _ s r fun v B1 H1 d W1 e1 s1 r1 q1 => by
    obtain ⟨c, rfl, q1⟩ := q1
    cases r1
    refine ⟨c, rfl, ?_⟩
    cases c with
    | false => exact (iteF ((show WE K tb e W1 Q from q1) B1 σ H1 k s1 (r.mono e1) fun b B2 H2 d2 W2 e2 s2 r2 q2 => hk b B2 H2 d2 W2 (e1.trans e2) s2 r2 q2) : if false = true then k (.bl true) H1 else _)
    | true => exact (iteT (hk _ B1 H1 _ W1 e1 s1 (.raw _) q1) : if true = true then _ else tb σ H1 k)
theorem we_notV (q : WE K ta e W fun x W1 => ∃ c, x = .raw (.bl c) ∧ Q (.raw (.bl (!c))) W1) : WE K (tNotV ta) e W Q := fun B σ H k s r hk =>
  q B σ H _ s r fun v B1 H1 d W1 e1 s1 r1 q1 => by
    obtain ⟨c, rfl, q1⟩ := q1
    cases r1
    exact ⟨c, rfl, hk _ B1 H1 _ W1 e1 s1 (.raw _) q1⟩
theorem we_if (q : WT K t e W fun c W1 => if c = true then WE K ta e W1 Q else WE K tb e W1 Q) : WE K (tIf t ta tb) e W Q := fun B σ H k s r hk =>
  q B σ H _ s r fun c B1 H1 W1 e1 s1 q1 => by
    cases c with
    | true => exact (iteT ((show WE K ta e W1 Q from q1) B1 σ H1 k s1 (r.mono e1) fun b B2 H2 d2 W2 e2 s2 r2 q2 => hk b B2 H2 d2 W2 (e1.trans e2) s2 r2 q2) : if true = true then _ else tb σ H1 k)
    | false => exact (iteF ((show WE K tb e W1 Q from q1) B1 σ H1 k s1 (r.mono e1) fun b B2 H2 d2 W2 e2 s2 r2 q2 => hk b B2 H2 d2 W2 (e1.trans e2) s2 r2 q2) : if false = true then ta σ H1 k else _)
theorem we_chain {r1 r2 : R2} (q : WE K ta e W fun x W1 => WE K tb e W1 fun y W2 => RD K r1 x y W2 fun z W3 => ∃ c, z = .raw (.bl c) ∧ if c = true then WE K tx e W3 fun w W4 => RD K r2 y w W4 Q else Q (.raw (.bl false)) W3) : WE K (tChain r1 r2 ta tb tx) e W Q := fun B σ H k s r hk =>
  q B σ H _ s r fun v B1 H1 d W1 e1 s1 g1 q1 => q1 B1 σ H1 _ s1 (r.mono e1) fun w B2 H2 d2 W2 e2 s2 g2 q2 => q2 B2 H2 v w _ s2 (g1.mono e2) g2 fun z B3 H3 d3 W3 e3 s3 g3 q3 => by
    obtain ⟨c, rfl, q3⟩ := q3
    cases g3
    have e13 := (e1.trans e2).trans e3
    refine ⟨c, rfl, ?_⟩
    cases c with
    | true => exact (iteT ((show WE K tx e W3 _ from q3) B3 σ H3 _ s3 (r.mono e13) fun u B4 H4 d4 W4 e4 s4 g4 q4 => q4 B4 H4 w u k s4 ((g2.mono e3).mono e4) g4 fun x B5 H5 d5 W5 e5 s5 g5 q5 => hk x B5 H5 d5 W5 ((e13.trans e4).trans e5) s5 g5 q5) : if true = true then _ else k (.bl false) H3)
    | false => exact (iteF (hk _ B3 H3 _ W3 e13 s3 (.raw _) q3) : if false = true then tx σ H3 _ else _)
variable {tr tl : TA} {QA : List D → Wd → Prop}
theorem wa_nil (q : QA [] W) : WA K tNil e W QA := fun B σ H k s r hk => hk [] B H [] W (Evl.Ex.refl _) s .nil q
theorem wa_cons (q : WE K ta e W fun x W1 => WA K tr e W1 fun xs W2 => QA (x :: xs) W2) : WA K (tCons ta tr) e W QA := fun B σ H k s r hk =>
  q B σ H _ s r fun v B1 H1 d W1 e1 s1 r1 q1 => q1 B1 σ H1 _ s1 (r.mono e1) fun vs B2 H2 ds W2 e2 s2 r2 q2 => hk _ B2 H2 _ W2 (e1.trans e2) s2 (.cons (r1.mono e2) r2) q2
theorem we_call {p : PF} (q : WA K tl e W fun ds W1 => p ds W1 Q) : WE K (tCall (lift K p) [] E0 tl) e W Q := fun B σ H k s r hk =>
  q B σ H _ s r fun vs B1 H1 ds W1 e1 s1 r1 q1 => by
    rw [List.append_nil]
    exact ⟨B1, W1, ds, Q, s1, r1, q1, fun v B' H' d W' e2 s2 r2 q2 => hk v B' H' d W' (e1.trans e2) s2 r2 q2⟩
theorem we_cb {r : List V → Hp → VK → Prop} (q : WA K tl e W fun ds W1 => RC K r ds W1 Q) : WE K (tCB r tl) e W Q := fun B σ H k s r hk =>
  q B σ H _ s r fun vs B1 H1 ds W1 e1 s1 r1 q1 => q1 B1 H1 vs k s1 r1 fun v B' H' d W' e2 s2 r2 q2 => hk v B' H' d W' (e1.trans e2) s2 r2 q2
theorem we_meth {C : Addr} {m : Str} {p : PF} (q : WE K ta e W fun x W1 => ∃ a fs, x = .ptr a ∧ W1 a = some (.ins C fs) ∧ fs.lookup m = none ∧ WA K tl e W1 fun ds W2 => p (x :: ds) W2 Q) : WE K (tMeth C m (lift K p) [] E0 ta tl) e W Q := fun B σ H k s r hk =>
  q B σ H _ s r fun v B1 H1 d W1 e1 s1 r1 q1 => by
    obtain ⟨a, fs, rfl, h1, h2, q1⟩ := q1
    obtain ⟨dx, fs', h3, h4⟩ := s1.ins h1
    cases r1
    refine ⟨a, dx, fs', rfl, h3, h4.lookN h2, q1 B1 σ H1 _ s1 (r.mono e1) fun vs B2 H2 ds W2 e2 s2 r2 q2 => ?_⟩
    rw [List.append_nil]
    exact ⟨B2, W2, _, Q, s2, .cons (.raw _) r2, q2, fun v B' H' d W' e3 s3 r3 q3 => hk v B' H' d W' ((e1.trans e2).trans e3) s3 r3 q3⟩
theorem we_make {C : Addr} {p : PF} (q : WA K tl e W fun ds W1 => ∀ x, W1 x = none → p (.ptr x :: ds) (wset W1 x (.ins C [])) fun d W2 => d = .non ∧ Q (.ptr x) W2) : WE K (tMake C (lift K p) [] E0 tl) e W Q := fun B σ H k s r hk =>
  q B σ H _ s r fun vs B1 H1 ds W1 e1 s1 r1 q1 x dx hx hdx hne => by
    rw [List.append_nil]
    have hdx2 : (upd H1 dx (.own x)) x = none := by rw [upd_ne (Ne.symm hne)]; exact hx
    have s2 : Sta K B1 W1 (upd H1 dx (.own x)) := ⟨s1.ex.trans (Evl.Ex.new hdx), fun a c q => by
      obtain ⟨h1, o, h2, h3⟩ := s1.own a c q
      exact ⟨h1, o, (Evl.Ex.new hdx) a o h2, h3⟩⟩
    refine ⟨B1, wset W1 x (.ins C []), _, _, s2.new hdx2 (.ins .nil), .cons (.raw _) r1, q1 x (s1.nnone hx), fun v B' H' d W' e3 s3 r3 q3 => ?_⟩
    obtain ⟨rfl, q3⟩ := q3
    cases r3
    exact ⟨rfl, hk _ B' H' _ W' (e1.trans e3) s3 (.raw _) q3⟩
theorem ws_seq (q : WS K ts e W { E with nx := fun e' W' => WS K tu e' W' E }) : WS K (tSeq ts tu) e W E := fun Dn B σ H s r h1 h2 h3 h4 =>
  q { Dn with nx := tu Dn } B σ H s r (fun σ' B' H' e' W' x s' r' q' => q' Dn B' σ' H' s' r' (fun σ2 B2 H2 e2 W2 x2 => h1 σ2 B2 H2 e2 W2 (x.trans x2)) (fun v B2 H2 d2 W2 x2 => h2 v B2 H2 d2 W2 (x.trans x2)) (fun σ2 B2 H2 e2 W2 x2 => h3 σ2 B2 H2 e2 W2 (x.trans x2)) fun σ2 B2 H2 e2 W2 x2 => h4 σ2 B2 H2 e2 W2 (x.trans x2)) h2 h3 h4
theorem ws_cut (Mid : Env → Wd → Prop) (h : WS K ts e W { E with nx := Nx Mid }) (k : ∀ e' W', Mid e' W' → WS K tu e' W' E) : WS K (Evl.tCut ts tu) e W E := fun Dn B σ H s r h1 h2 h3 h4 =>
  ⟨fun σ' H' => ∃ B' e' W', Ex B B' ∧ Sta K B' W' H' ∧ EnvR K B' σ' e' ∧ Mid e' W', h { Dn with nx := _ } B σ H s r (fun σ' B' H' e' W' x s' r' q' => by
      obtain ⟨e2, W2, l2, m2, q2⟩ := q'
      exact ⟨B', e2, W2, x, s'.sub m2, r'.le l2, q2⟩) h2 h3 h4, fun σ' H' q => by
    obtain ⟨B', e', W', x, s', r', q'⟩ := q
    exact k e' W' q' Dn B' σ' H' s' r' (fun σ2 B2 H2 e2 W2 x2 => h1 σ2 B2 H2 e2 W2 (x.trans x2)) (fun v B2 H2 d2 W2 x2 => h2 v B2 H2 d2 W2 (x.trans x2)) (fun σ2 B2 H2 e2 W2 x2 => h3 σ2 B2 H2 e2 W2 (x.trans x2)) fun σ2 B2 H2 e2 W2 x2 => h4 σ2 B2 H2 e2 W2 (x.trans x2)⟩
theorem ws_cutS (q : WS K ts e W { E with nx := fun e' W' => WS K tu e' W' E }) : WS K (Evl.tCut ts tu) e W E := fun Dn B σ H s r h1 h2 h3 h4 =>
  ⟨tu Dn, ws_seq q Dn B σ H s r h1 h2 h3 h4, fun _ _ h => h⟩
theorem ws_sub {W' : Wd} (h : Sub W' W) (q : WS K ts e W' E) : WS K ts e W E := fun Dn B σ H s r => q Dn B σ H (s.sub h) r
theorem ws_le {e' : Env} (h : EnvLe e' e) (q : WS K ts e' W E) : WS K ts e W E := fun Dn B σ H s r => q Dn B σ H s (r.le h)
theorem ws_next (q : E.nx e W) : WS K tNext e W E := fun Dn B σ H s r h1 _ _ _ => h1 σ B H e W (Evl.Ex.refl _) s r q
theorem ws_brk (q : E.bk e W) : WS K tBreak e W E := fun Dn B σ H s r _ _ h3 _ => h3 σ B H e W (Evl.Ex.refl _) s r q
theorem ws_cont (q : E.ct e W) : WS K tCont e W E := fun Dn B σ H s r _ _ _ h4 => h4 σ B H e W (Evl.Ex.refl _) s r q
theorem ws_asg {tg : TG} (q : WE K te e W fun x W1 => WG K tg x e W1 E.nx) : WS K (tAsg te tg) e W E := fun Dn B σ H s r h1 h2 h3 h4 =>
  q B σ H _ s r fun v B1 H1 d W1 e1 s1 r1 q1 => q1 B1 σ H1 v _ s1 (r.mono e1) r1 fun σ2 B2 H2 e2 W2 x2 => h1 σ2 B2 H2 e2 W2 (e1.trans x2)
theorem wg_name {QE : Env → Wd → Prop} {e' : Env} (h : e.set i (some x) = e') (q : QE e' W) : WG K (gName i) x e W QE := fun B σ H v k s r r1 hk => by
  subst h
  exact hk _ B H _ W (Evl.Ex.refl _) s (r.set r1) q
theorem wg_tup {n : Nat} {u : TGs} {xs : List D} {QE : Env → Wd → Prop} (l : xs.length = n) (q : WGs K u xs e W QE) : WG K (gTup K n u) (.tup xs) e W QE := fun B σ H v k s r r1 hk => by
  cases r1 with
  | tup h hs => exact ⟨_, _, rfl, ex_st s.ex h, by rw [hs.len]; exact l, q B σ H _ k s r hs hk⟩
theorem wgs_nil {QE : Env → Wd → Prop} (q : QE e W) : WGs K gNil [] e W QE := fun B σ H v k s r r1 hk => by
  cases r1
  exact ⟨rfl, hk σ B H e W (Evl.Ex.refl _) s r q⟩
theorem wgs_cons {tg : TG} {u : TGs} {xs : List D} {QE : Env → Wd → Prop} (q : WG K tg x e W fun e' W' => WGs K u xs e' W' QE) : WGs K (gCons tg u) (x :: xs) e W QE := fun B σ H v k s r r1 hk => by
  cases r1 with
  | cons h t => exact ⟨_, _, rfl, q B σ H _ _ s r h fun σ2 B2 H2 e2 W2 x2 s2 r2 q2 => q2 B2 σ2 H2 _ k s2 r2 (t.mono x2) fun σ3 B3 H3 e3 W3 x3 => hk σ3 B3 H3 e3 W3 (x2.trans x3)⟩
theorem ws_drop (q : WE K te e W fun _ W1 => E.nx e W1) : WS K (tDrop te) e W E := fun Dn B σ H s r h1 h2 h3 h4 =>
  q B σ H _ s r fun v B1 H1 d W1 e1 s1 r1 q1 => h1 σ B1 H1 e W1 e1 s1 (r.mono e1) q1
theorem ws_ret (q : WE K te e W (FzQ (SubQ E.rt))) : WS K (tRet te) e W E := fun Dn B σ H s r h1 h2 h3 h4 =>
  we_subq (we_fz q) B σ H _ s r fun v B1 H1 d W1 e1 s1 r1 q1 => h2 v B1 H1 d W1 e1 s1 r1 q1
theorem ws_retN (q : SubQ E.rt .non W) : WS K tRetN e W E := fun Dn B σ H s r h1 h2 h3 h4 => by
  obtain ⟨W', m, q⟩ := q
  exact h2 .non B H .non W' (Evl.Ex.refl _) (s.sub m) (.raw _) q
theorem ws_if (q : WT K t e W fun b W1 => if b = true then WS K ts e W1 E else WS K tu e W1 E) : WS K (tIfS t ts tu) e W E := fun Dn B σ H s r h1 h2 h3 h4 =>
  q B σ H _ s r fun c B1 H1 W1 e1 s1 q1 => by
    have g1 := fun σ2 B2 H2 e2 W2 (x2 : Ex B1 B2) => h1 σ2 B2 H2 e2 W2 (e1.trans x2)
    have g2 := fun v B2 H2 d2 W2 (x2 : Ex B1 B2) => h2 v B2 H2 d2 W2 (e1.trans x2)
    have g3 := fun σ2 B2 H2 e2 W2 (x2 : Ex B1 B2) => h3 σ2 B2 H2 e2 W2 (e1.trans x2)
    have g4 := fun σ2 B2 H2 e2 W2 (x2 : Ex B1 B2) => h4 σ2 B2 H2 e2 W2 (e1.trans x2)
    cases c with
    | true => exact (iteT ((show WS K ts e W1 E from q1) Dn B1 σ H1 s1 (r.mono e1) g1 g2 g3 g4) : if true = true then _ else tu Dn σ H1)
    | false => exact (iteF ((show WS K tu e W1 E from q1) Dn B1 σ H1 s1 (r.mono e1) g1 g2 g3 g4) : if false = true then ts Dn σ H1 else _)
theorem ws_aug {ti : TIp} (h : e[i]? = some (some x)) (q : WE K te e W fun y W1 => RD K ti x y W1 fun z W2 => E.nx (e.set i (some z)) W2) : WS K (tAug i te ti) e W E := fun Dn B σ H s r h1 h2 h3 h4 => by
  obtain ⟨v, g1, g2⟩ := r.at' i x h
  exact ⟨v, g1, q B σ H _ s r fun w B1 H1 d W1 e1 s1 r1 q1 => q1 B1 H1 v w _ s1 (g2.mono e1) r1 fun u B2 H2 d2 W2 e2 s2 r2 q2 => h1 _ B2 H2 _ W2 (e1.trans e2) s2 ((r.mono (e1.trans e2)).set r2) q2⟩
theorem d_ip {f : Int → Int → Int} {a b : Int} (q : Q (.raw (.int (f a b))) W) : RD K (ipI f) (.raw (.int a)) (.raw (.int b)) W Q := rd_raw (fun _ _ => w_ip) q
theorem ws_par {i j : Nat} (q : WA K tl e W fun ds W1 => ∃ x y, ds = [x, y] ∧ E.nx ((e.set i (some x)).set j (some y)) W1) : WS K (tPar i j tl) e W E := fun Dn B σ H s r h1 h2 h3 h4 =>
  q B σ H _ s r fun vs B1 H1 ds W1 e1 s1 r1 q1 => by
    obtain ⟨x, y, rfl, q1⟩ := q1
    cases r1 with
    | cons r1 r2 =>
      cases r2 with
      | cons r2 r3 =>
        cases r3
        exact ⟨_, _, rfl, h1 _ B1 H1 _ W1 e1 s1 (((r.mono e1).set r1).set r2) q1⟩
theorem set_self {α : Type} {l : List α} {i : Nat} {x : α} (h : l[i]? = some x) : l.set i x = l := by
  refine List.ext_getElem? fun j => ?_
  by_cases z : i = j
  · subst z
    rw [List.getElem?_set]
    simp only [if_true]
    rw [if_pos (List.getElem?_eq_some_iff.mp h).1, h]
  · rw [List.getElem?_set_ne z]
theorem ws_frz {a : Addr} {ds : List D} {e' : Env} (h : e[i]? = some (some (.ptr a))) (hW : W a = some (.lst ds)) (he : e.set i (some (.lst ds)) = e') (q : WS K ts e' (wer W a) E) : WS K ts e W E := fun Dn B σ H s r h1 h2 h3 h4 => by
  subst he
  obtain ⟨xs, g1, g2⟩ := s.lst hW
  obtain ⟨s2, e2⟩ := s.frz hW g1
  obtain ⟨v, g3, g4⟩ := r.at' i _ h
  cases g4
  have r2 := (r.mono e2).set (i := i) (Rep.lst upd_same (g2.mono e2))
  rw [set_self g3] at r2
  exact q Dn _ σ H s2 r2 (fun σ' B' H' e' W' x => h1 σ' B' H' e' W' (e2.trans x)) (fun v B' H' d W' x => h2 v B' H' d W' (e2.trans x)) (fun σ' B' H' e' W' x => h3 σ' B' H' e' W' (e2.trans x)) fun σ' B' H' e' W' x => h4 σ' B' H' e' W' (e2.trans x)
def startD (N : List Str) (ds : List D) : Env := ds.map some ++ List.replicate (N.length - ds.length) none
theorem start_r {B : Hp} {N : List Str} {vs : List V} {ds : List D} (h : Reps K B vs ds) : EnvR K B (L2.start N vs) (startD N ds) := by
  have hl := h.len
  refine ⟨by unfold L2.start startD; simp [hl], fun i d q => ?_⟩
  unfold startD at q
  by_cases z : i < ds.length
  · rw [List.getElem?_append_left (by simpa using z), List.getElem?_map] at q
    obtain ⟨d', h1, h2⟩ := Option.map_eq_some_iff.mp q
    cases h2
    obtain ⟨v, h3, h4⟩ := h.get h1
    refine ⟨v, ?_, h4⟩
    unfold L2.start
    rw [List.getElem?_append_left (by rw [List.length_map, hl]; exact z), List.getElem?_map, h3]; rfl
  · rw [List.getElem?_append_right (by simpa using z)] at q
    have := List.mem_of_getElem? q
    rw [List.mem_replicate] at this
    cases this.2
theorem lift_pure {p : PF} {t : TS} {N : List Str} {vs : List V} {H : Hp} {Qv : VK} {Ex : XK} (h : lift K p vs H Qv Ex) (g : ∀ ds W Q, p ds W Q → WS K t (startD N ds) W ⟨fun _ W' => Q .non W', Q, fun _ _ => False, fun _ _ => False⟩) :
    t { nx := fun _ H' => Qv .non H', rt := Qv } (L2.start N vs) H := by
  obtain ⟨B, W, ds, Q0, s, r, hp, k⟩ := h
  exact g ds W Q0 hp { nx := fun _ H' => Qv .non H', rt := Qv } B (L2.start N vs) H s (start_r r) (fun σ' B' H' e' W' x s' _ q => k .non B' H' .non W' x s' (.raw _) q) (fun v B' H' d W' x s' r' q => k v B' H' d W' x s' r' q) (fun _ _ _ _ _ _ _ _ q => q.elim) (fun _ _ _ _ _ _ _ _ q => q.elim)
theorem lift_len {p : PF} {n : Nat} {vs : List V} {H : Hp} {Qv : VK} {Ex : XK} (g : ∀ ds W Q, p ds W Q → ds.length = n) (h : lift K p vs H Qv Ex) : vs.length = n := by
  obtain ⟨B, W, ds, Q0, s, r, hp, k⟩ := h
  rw [r.len]; exact g ds W Q0 hp
end
end RT

set_option Elab.async false
set_option linter.all false
set_option maxRecDepth 100000
set_option maxHeartbeats 2000000
set_option autoImplicit false
namespace RT
open PySem L2
def RM (K : PySem.W.Frag) (r : V → List V → Hp → VK → Prop) (x : D) (xs : List D) (W : Wd) (Q : KD) : Prop :=
  ∀ (B H : Hp) (v : V) (vs : List V) (k : VK), Sta K B W H → Rep K B v x → Reps K B vs xs → (∀ v B' H' d W', Ex B B' → Sta K B' W' H' → Rep K B' v d → Q d W' → k v H') → r v vs H k
def RS (K : PySem.W.Frag) (r : V → Option Int → Option Int → Hp → VK → Prop) (x : D) (lo hi : Option Int) (W : Wd) (Q : KD) : Prop :=
  ∀ (B H : Hp) (v : V) (k : VK), Sta K B W H → Rep K B v x → (∀ v B' H' d W', Ex B B' → Sta K B' W' H' → Rep K B' v d → Q d W' → k v H') → r v lo hi H k
def RSt (K : PySem.W.Frag) (r : TSet) (o i x : D) (W : Wd) (Q : Wd → Prop) : Prop :=
  ∀ (B H : Hp) (u v w : V) (k : Hp → Prop), Sta K B W H → Rep K B u o → Rep K B v i → Rep K B w x → (∀ B' H' W', Ex B B' → Sta K B' W' H' → Q W' → k H') → r u v w H k
def rCatQ (K : PySem.W.Frag) : R2 := fun x y H Q => ∃ l b xs zs, x = .ref l ∧ y = .ref b ∧ SqL K H l xs ∧ SqL K H b zs ∧ xs.length + zs.length ≤ sizeLine ∧ ∀ p, H p = none → Q (.ref p) (upd H p (.lst (xs ++ zs)))
abbrev aCatQ (K : PySem.W.Frag) := tOp (rCatQ K)
section
open PySem.Spec PyProof.Rows
theorem op_catQ {X : Cx} : OpR X (binaryOp .Add) (rCatQ X.K) := by
  intro pins s σ H x y v u Q I rx ry h
  obtain ⟨l, b, xs, zs, rfl, rfl, hx, hz, hsz, q⟩ := h
  cases rx
  cases ry
  obtain ⟨its, r, pl, _⟩ := I.list hx
  obtain ⟨its2, r2, pl2, _⟩ := I.list hz
  have n1 := r.length
  have n2 := r2.length
  obtain ⟨⟨c, dd, da, sl⟩, n, e, hc, hd, hda⟩ := pl
  obtain ⟨⟨c2, dd2, da2, sl2⟩, m, e2, hc2, hd2, hda2⟩ := pl2
  simp only at hc hd hda hc2 hd2 hda2
  subst hc hd hda hc2 hd2 hda2
  refine concat_meets ⟨_, e, rfl⟩ ⟨_, e2, rfl⟩ noFill_list_add seq_list_add PySem.F.slot_list_add PySem.F.entry_list_add (PySem.F.args_list_add_2 _ _)
    (list_addW l b its.toArray its2.toArray n m none none sl sl2 (by rw [List.size_toArray, List.size_toArray]; omega)) ⟨e, e2, ?_⟩
  have ea : its.toArray ++ its2.toArray = (its ++ its2).toArray := by simp
  rw [ea]
  exact ⟨.ref _, _, I.lnew (t' := s.toks) (r.append r2) (by rw [List.length_append]; omega), rfl, q _ I.fresh⟩
end
inductive SeqD (W : Wd) : D → List D → Prop
  | lst (ds : List D) : SeqD W (.lst ds) ds
  | own {a : Addr} {ds : List D} (h : W a = some (.lst ds)) : SeqD W (.raw (.ref a)) ds
  | scr (ns : List Int) : SeqD W (.scr ns) (ns.map D.int)
inductive CatD (W : Wd) : D → List D → Prop
  | lst (ds : List D) : CatD W (.lst ds) ds
  | own {a : Addr} {ds : List D} (h : W a = some (.lst ds)) : CatD W (.raw (.ref a)) ds
theorem SeqD.er {W W' : Wd} (m : Sub W W') {d : D} {ds : List D} : SeqD W d ds → SeqD W' d ds
  | .lst _ => .lst _
  | .own h => .own (m _ _ h)
  | .scr _ => .scr _
section
variable {K : PySem.W.Frag} {e : Env} {W : Wd} {te ta tb tx ty : TE} {Q : KD} {ts tu tw : TS} {E : DE} {x y z d : D} {i : Nat} {tr tl : TA} {B H : Hp} {v : V} {ds es : List D}
theorem seq_sem (s : Sta K B W H) (r : Rep K B v d) (q : SeqD W d ds) : ∃ a xs, v = .ref a ∧ SqL K H a xs ∧ Reps K B xs ds := by
  cases q with
  | lst ds => cases r with | lst h hs => exact ⟨_, _, rfl, SqL.of (s.ex _ _ h), hs⟩
  | own h =>
    cases r
    obtain ⟨xs, h1, h2⟩ := s.lst h
    exact ⟨_, xs, rfl, SqL.of h1, h2⟩
  | scr ns =>
    cases r with
    | scr h =>
      refine ⟨_, _, rfl, ex_sq s.ex h, ?_⟩
      have := Reps.raws (K := K) (S := B) (ns.map V.int)
      rwa [List.map_map] at this
theorem cat_sem (s : Sta K B W H) (r : Rep K B v d) (q : CatD W d ds) : ∃ a xs, v = .ref a ∧ H a = some (.lst xs) ∧ Reps K B xs ds := by
  cases q with
  | lst ds => cases r with | lst h hs => exact ⟨_, _, rfl, s.ex _ _ h, hs⟩
  | own h =>
    cases r
    obtain ⟨xs, h1, h2⟩ := s.lst h
    exact ⟨_, xs, rfl, h1, h2⟩
theorem at_sem {xs : List V} {j : Int} (r : Reps K B xs ds) (h : atI ds j = some d) : ∃ v, atI xs j = some v ∧ Rep K B v d := by
  unfold atI at h ⊢
  rw [r.len]
  obtain ⟨n, h1, h2⟩ := Option.bind_eq_some_iff.mp h
  obtain ⟨v, h3, h4⟩ := r.get h2
  exact ⟨v, by rw [h1]; exact h3, h4⟩
theorem d_ixL {j : Int} (h : SeqD W x ds) (a : atI ds j = some d) (q : Q d W) : RD K (rIxL K) x (.raw (.int j)) W Q := fun B H v w k s r1 r2 hk => by
  cases r2
  obtain ⟨p, xs, rfl, h1, h2⟩ := seq_sem s r1 h
  obtain ⟨u, h3, h4⟩ := at_sem h2 a
  exact w_ixL h1 h3 (hk u B H d W (Evl.Ex.refl _) s h4 q)
theorem d_ixT {j : Int} (a : atI ds j = some d) (q : Q d W) : RD K (rIxT K) (.tup ds) (.raw (.int j)) W Q := fun B H v w k s r1 r2 hk => by
  cases r2
  cases r1 with
  | tup h hs =>
    obtain ⟨u, h3, h4⟩ := at_sem hs a
    exact w_ixT (ex_st s.ex h) h3 (hk u B H d W (Evl.Ex.refl _) s h4 q)
theorem d_ixAL {j : Int} (h : SeqD W x ds) (a : atI ds j = some d) (q : Q d W) : RD K (rIx K) x (.raw (.int j)) W Q := fun B H v w k s r1 r2 hk => .inl (d_ixL h a q B H v w k s r1 r2 hk)
theorem d_ixAT {j : Int} (a : atI ds j = some d) (q : Q d W) : RD K (rIx K) (.tup ds) (.raw (.int j)) W Q := fun B H v w k s r1 r2 hk => .inr (.inl (d_ixT a q B H v w k s r1 r2 hk))
theorem d_ixS {z : Str} {j : Int} {c : Nat} (h : z.length ≤ sizeLine) (a : atI z.cps.toList j = some c) (q : Q (.raw (.str ⟨#[c]⟩)) W) : RD K rIxS (.raw (.str z)) (.raw (.int j)) W Q := rd_raw (fun _ _ => w_ixS h a) q
theorem d_lenL (h : SeqD W x ds) (q : Q (.raw (.int ds.length)) W) : RC K (Evl.rLenS K) [x] W Q := fun B H vs k s r hk => by
  cases r with
  | cons r1 r2 =>
    cases r2
    obtain ⟨p, xs, rfl, h1, h2⟩ := seq_sem s r1 h
    exact w_lenS h1 (by rw [h2.len]; exact hk _ B H _ W (Evl.Ex.refl _) s (.raw _) q)
theorem d_lenT (q : Q (.raw (.int ds.length)) W) : RC K (Evl.rLenS K) [.tup ds] W Q := fun B H vs k s r hk => by
  cases r with
  | cons r1 r2 =>
    cases r2
    cases r1 with
    | tup h hs => exact w_lenT (ex_st s.ex h) (by rw [hs.len]; exact hk _ B H _ W (Evl.Ex.refl _) s (.raw _) q)
theorem d_lenStr {z : Str} (h : z.length ≤ sizeLine) (q : Q (.raw (.int (z.length : Nat))) W) : RC K rLenStr [.raw (.str z)] W Q := rc_raw1 (fun _ _ => w_lenStr h) q
theorem d_int1 {a : Int} (q : Q (.raw (.int a)) W) : RC K rInt1 [.raw (.int a)] W Q := rc_raw1 (fun _ _ => w_int1) q
theorem d_int1b {b : Bool} (q : Q (.raw (.int (if b then 1 else 0))) W) : RC K rInt1 [.raw (.bl b)] W Q := rc_raw1 (fun _ _ => w_int1b) q
theorem d_max2 {a b : Int} (q : Q (.raw (.int (if b > a then b else a))) W) : RC K Evl.rMax2 [.raw (.int a), .raw (.int b)] W Q := rc_raw2 (fun _ _ => w_max2) q
theorem d_min2 {a b : Int} (q : Q (.raw (.int (if b < a then b else a))) W) : RC K rMin2 [.raw (.int a), .raw (.int b)] W Q := rc_raw2 (fun _ _ => w_min2) q
theorem d_strI {j : Int} (h : j.natAbs.log2 < 1920) (q : Q (.raw (.str (toString j))) W) : RC K rStrI [.raw (.int j)] W Q := rc_raw1 (fun _ _ => w_strI h) q
theorem d_intS {z : Str} {j : Int} (h1 : PySem.intText? z = some j) (h2 : z.length ≤ 640) (q : Q (.raw (.int j)) W) : RC K rIntS [.raw (.str z)] W Q := rc_raw1 (fun _ _ q => ⟨z, j, rfl, h1, h2, q⟩) q
def cutD {α : Type} (xs : List α) (lo hi : Option Int) : List α := (xs.drop (HT.sIx xs.length 0 lo)).take (HT.sIx xs.length xs.length hi - HT.sIx xs.length 0 lo)
theorem cut_sem {xs : List V} {lo hi : Option Int} (r : Reps K B xs ds) : Reps K B (cutV xs lo hi) (cutD ds lo hi) := by
  unfold cutV cutD
  rw [r.len]
  exact (r.drop _).take _
theorem we_sl {r : V → Option Int → Option Int → Hp → VK → Prop} {to th : TO} (q : WE K te e W fun x W1 => WO K to e W1 fun l W2 => WO K th e W2 fun u W3 => RS K r x l u W3 Q) : WE K (tSl r te to th) e W Q := fun B σ H k s r hk =>
  q B σ H _ s r fun v B1 H1 d W1 e1 s1 r1 q1 => q1 B1 σ H1 _ s1 (r.mono e1) fun l B2 H2 W2 e2 s2 q2 => q2 B2 σ H2 _ s2 ((r.mono e1).mono e2) fun u B3 H3 W3 e3 s3 q3 => q3 B3 H3 v k s3 ((r1.mono e2).mono e3) fun v B4 H4 d4 W4 e4 => hk v B4 H4 d4 W4 (((e1.trans e2).trans e3).trans e4)
theorem wo_no {QO : Option Int → Wd → Prop} (q : QO none W) : WO K tNoPart e W QO := fun B σ H k s r hk => hk none B H W (Evl.Ex.refl _) s q
theorem wo_part {QO : Option Int → Wd → Prop} (q : WE K te e W fun x W1 => ∃ i, x = .raw (.int i) ∧ QO (some i) W1) : WO K (tPart te) e W QO := fun B σ H k s r hk =>
  q B σ H _ s r fun v B1 H1 d W1 e1 s1 r1 q1 => by
    obtain ⟨j, rfl, q1⟩ := q1
    cases r1
    exact ⟨j, rfl, hk _ B1 H1 W1 e1 s1 q1⟩
theorem wo_i {j : Int} {P : Int → Prop} (q : P j) : ∃ i, D.raw (.int j) = .raw (.int i) ∧ P i := ⟨j, rfl, q⟩
theorem d_slL {lo hi : Option Int} (h : SeqD W x ds) (q : ∀ p, W p = none → Q (.ptr p) (wset W p (.lst (cutD ds lo hi)))) : RS K (rSlL K) x lo hi W Q := fun B H v k s r1 hk => by
  obtain ⟨p, xs, rfl, h1, h2⟩ := seq_sem s r1 h
  exact w_slL h1 fun l hl => hk _ B _ _ _ (Evl.Ex.refl _) (s.new hl (.lst (cut_sem h2))) (.raw _) (q l (s.nnone hl))
theorem d_slT {lo hi : Option Int} (hp : ¬ (HT.sIx ds.length 0 lo = 0 ∧ HT.sIx ds.length ds.length hi = ds.length)) (q : Q (.tup (cutD ds lo hi)) W) : RS K (rSlT K) (.tup ds) lo hi W Q := fun B H v k s r1 hk => by
  cases r1 with
  | tup h hs =>
    rename_i p xs
    exact ⟨p, xs, rfl, ex_st s.ex h, by rw [hs.len]; exact hp, fun l hl => hk _ _ _ _ _ (s.newB hl).2 (s.newB hl).1 (.tup (SqT.of upd_same) ((cut_sem hs).mono (s.newB hl).2)) q⟩
theorem d_slS {z : Str} {lo hi : Option Int} (h : z.length ≤ sizeLine) (q : Q (.raw (.str (cutS z lo hi))) W) : RS K rSlS (.raw (.str z)) lo hi W Q := fun B H v k s r1 hk => by
  cases r1
  exact w_slS h (hk _ B H _ W (Evl.Ex.refl _) s (.raw _) q)
theorem we_tup (q : WA K tl e W fun ds W1 => ds.length ≤ sizeLine ∧ Q (.tup ds) W1) : WE K (tTup tl) e W Q := fun B σ H k s r hk =>
  w_tup (q B σ H _ s r fun vs B1 H1 ds W1 e1 s1 r1 q1 => ⟨by rw [r1.len]; exact q1.1, fun p hp => hk _ _ _ _ _ (e1.trans (s1.newB hp).2) (s1.newB hp).1 (.tup (SqT.of upd_same) (r1.mono (s1.newB hp).2)) q1.2⟩)
theorem we_lst (q : WA K tl e W fun ds W1 => ds.length ≤ sizeLine ∧ ∀ p, W1 p = none → Q (.ptr p) (wset W1 p (.lst ds))) : WE K (tLst tl) e W Q := fun B σ H k s r hk =>
  w_lst (q B σ H _ s r fun vs B1 H1 ds W1 e1 s1 r1 q1 => ⟨by rw [r1.len]; exact q1.1, fun p hp => hk _ _ _ _ _ e1 (s1.new hp (.lst r1)) (.raw _) (q1.2 p (s1.nnone hp))⟩)
theorem d_sz {n : Nat} {P : Prop} (h : n ≤ sizeLine) (q : P) : n ≤ sizeLine ∧ P := ⟨h, q⟩
theorem d_cat (h1 : CatD W x ds) (h2 : CatD W y es) (hl : ds.length + es.length ≤ sizeLine) (q : ∀ p, W p = none → Q (.ptr p) (wset W p (.lst (ds ++ es)))) : RD K rCat x y W Q := fun B H v w k s r1 r2 hk => by
  obtain ⟨a, xs, rfl, g1, g2⟩ := cat_sem s r1 h1
  obtain ⟨b, ys, rfl, g3, g4⟩ := cat_sem s r2 h2
  exact w_cat g1 g3 (by rw [g2.len, g4.len]; exact hl) fun p hp => hk _ _ _ _ _ (Evl.Ex.refl _) (s.new hp (.lst (g2.app g4))) (.raw _) (q p (s.nnone hp))
theorem d_catQ (h1 : SeqD W x ds) (h2 : SeqD W y es) (hl : ds.length + es.length ≤ sizeLine) (q : ∀ p, W p = none → Q (.ptr p) (wset W p (.lst (ds ++ es)))) : RD K (rCatQ K) x y W Q := fun B H v w k s r1 r2 hk => by
  obtain ⟨a, xs, rfl, g1, g2⟩ := seq_sem s r1 h1
  obtain ⟨b, ys, rfl, g3, g4⟩ := seq_sem s r2 h2
  exact ⟨a, b, xs, ys, rfl, rfl, g1, g3, by rw [g2.len, g4.len]; exact hl, fun p hp => hk _ _ _ _ _ (Evl.Ex.refl _) (s.new hp (.lst (g2.app g4))) (.raw _) (q p (s.nnone hp))⟩
theorem d_catT (h : ds ≠ []) (hl : ds.length + es.length ≤ sizeLine) (q : Q (.tup (ds ++ es)) W) : RD K (rCatT K) (.tup ds) (.tup es) W Q := fun B H v w k s r1 r2 hk => by
  cases r1 with
  | tup g1 hs1 =>
    cases r2 with
    | tup g2 hs2 =>
      rename_i a xs b ys
      refine ⟨a, b, xs, ys, rfl, rfl, ex_st s.ex g1, ex_st s.ex g2, ?_, by rw [hs1.len, hs2.len]; exact hl, fun z => ?_, fun z p hp => ?_⟩
      · intro z; subst z; cases hs1; exact h rfl
      · subst z
        cases hs2
        rw [List.append_nil] at q
        exact hk _ B H _ W (Evl.Ex.refl _) s (.tup g1 hs1) q
      · exact hk _ _ _ _ _ (s.newB hp).2 (s.newB hp).1 (.tup (SqT.of upd_same) ((hs1.app hs2).mono (s.newB hp).2)) q
theorem reps_rep {xs : List V} (r : Reps K B xs ds) : ∀ n : Nat, Reps K B (List.replicate n xs).flatten (List.replicate n ds).flatten
  | 0 => .nil
  | n + 1 => by
    rw [List.replicate_succ, List.replicate_succ, List.flatten_cons, List.flatten_cons]
    exact r.app (reps_rep r n)
theorem d_rep {j : Int} (h : CatD W x ds) (h1 : -(2 ^ 63) ≤ j ∧ j < 2 ^ 63) (hl : ds.length * j.toNat ≤ sizeLine) (q : ∀ p, W p = none → Q (.ptr p) (wset W p (.lst (List.replicate j.toNat ds).flatten))) : RD K rRep x (.raw (.int j)) W Q := fun B H v w k s r1 r2 hk => by
  cases r2
  obtain ⟨a, xs, rfl, g1, g2⟩ := cat_sem s r1 h
  exact ⟨a, j, xs, rfl, rfl, g1, h1.1, h1.2, by rw [g2.len]; exact hl, fun p hp => hk _ _ _ _ _ (Evl.Ex.refl _) (s.new hp (.lst (reps_rep g2 _))) (.raw _) (q p (s.nnone hp))⟩
theorem d_list (h : SeqD W x ds) (q : ∀ p, W p = none → Q (.ptr p) (wset W p (.lst ds))) : RC K (rListOf K) [x] W Q := fun B H vs k s r hk => by
  cases r with
  | cons r1 r2 =>
    cases r2
    obtain ⟨a, xs, rfl, g1, g2⟩ := seq_sem s r1 h
    exact ⟨a, xs, rfl, .inl g1, fun p hp => hk _ _ _ _ _ (Evl.Ex.refl _) (s.new hp (.lst g2)) (.raw _) (q p (s.nnone hp))⟩
theorem d_listT (q : ∀ p, W p = none → Q (.ptr p) (wset W p (.lst ds))) : RC K (rListOf K) [.tup ds] W Q := fun B H vs k s r hk => by
  cases r with
  | cons r1 r2 =>
    cases r2
    cases r1 with
    | tup g hs => exact ⟨_, _, rfl, .inr (ex_st s.ex g), fun p hp => hk _ _ _ _ _ (Evl.Ex.refl _) (s.new hp (.lst hs)) (.raw _) (q p (s.nnone hp))⟩
theorem fz_new {p : Addr} (h : W p = none) (q : Q (.lst ds) W) : FzQ Q (.raw (.ref p)) (wset W p (.lst ds)) := .inr (.inl ⟨p, ds, rfl, ws_same, by rw [we_ws h]; exact q⟩)
theorem fz_newS {W' : Wd} {p : Addr} (m : Sub W W') (h : W' p = none) (q : Q (.lst ds) W) : FzQ (SubQ Q) (.raw (.ref p)) (wset W' p (.lst ds)) := .inr (.inl ⟨p, ds, rfl, ws_same, W, by rw [we_ws h]; exact m, q⟩)
theorem fz_obj {p C : Addr} {fs : List (Str × D)} (h : W p = none) (q : Q (.obj C (fs.map (·.1)) (fs.map (·.2))) W) : FzQ Q (.raw (.ref p)) (wset W p (.ins C fs)) := .inr (.inr ⟨p, C, fs, rfl, ws_same, by rw [we_ws h]; exact q⟩)
theorem fz_own {a : Addr} (h : W a = some (.lst ds)) (q : Q (.lst ds) (wer W a)) : FzQ Q (.raw (.ref a)) W := .inr (.inl ⟨a, ds, rfl, h, q⟩)
theorem fz_id (q : Q d W) : FzQ Q d W := .inl q
theorem sub_q {W' : Wd} (h : Sub W' W) (q : Q d W') : SubQ Q d W := ⟨W', h, q⟩
theorem fzs_own {a : Addr} {W' : Wd} (h : W a = some (.lst ds)) (m : Sub W' (wer W a)) (q : Q (.lst ds) W') : FzQ (SubQ Q) (.raw (.ref a)) W := .inr (.inl ⟨a, ds, rfl, h, W', m, q⟩)
theorem fzs_id {W' : Wd} (m : Sub W' W) (q : Q d W') : FzQ (SubQ Q) d W := .inl ⟨W', m, q⟩
def tFz (te : TE) : TE := te
theorem we_tFz (q : WE K te e W (FzQ Q)) : WE K (tFz te) e W Q := we_fz q
theorem d_inV {neg : Bool} {a : V} {l : List V} (h : SeqD W y (l.map D.raw) ∨ y = .tup (l.map D.raw)) (h1 : flatV a = true) (h2 : l.all flatV = true) (q : Q (.raw (.bl (if neg then !inV a l else inV a l))) W) : RD K (rIn K neg) (.raw a) y W Q := fun B H v w k s r1 r2 hk => by
  cases r1
  rcases h with h | rfl
  · obtain ⟨p, xs, rfl, g1, g2⟩ := seq_sem s r2 h
    have := g2.rawsI (f := fun x => x) rfl
    rw [List.map_id'] at this
    subst this
    exact ⟨p, _, rfl, .inl g1, h1, h2, hk _ B H _ W (Evl.Ex.refl _) s (.raw _) q⟩
  · cases r2 with
    | tup g1 g2 =>
      have := g2.rawsI (f := fun x => x) rfl
      rw [List.map_id'] at this
      subst this
      exact ⟨_, _, rfl, .inr (ex_st s.ex g1), h1, h2, hk _ B H _ W (Evl.Ex.refl _) s (.raw _) q⟩
theorem d_sum {ns : List Int} (h : SeqD W x (ns.map D.int)) (q : Q (.raw (.int ns.sum)) W) : RC K (rSum K) [x] W Q := fun B H vs k s r hk => by
  cases r with
  | cons r1 r2 =>
    cases r2
    obtain ⟨a, xs, rfl, g1, g2⟩ := seq_sem s r1 h
    rw [g2.rawsI (f := V.int) rfl] at g1
    exact ⟨a, ns, rfl, g1, hk _ B H _ W (Evl.Ex.refl _) s (.raw _) q⟩
theorem d_any {bs : List Bool} (h : SeqD W x (bs.map D.bl)) (q : Q (.raw (.bl (bs.any id))) W) : RC K (rAny K) [x] W Q := fun B H vs k s r hk => by
  cases r with
  | cons r1 r2 =>
    cases r2
    obtain ⟨a, xs, rfl, g1, g2⟩ := seq_sem s r1 h
    rw [g2.rawsI (f := V.bl) rfl] at g1
    exact ⟨a, bs, rfl, g1, hk _ B H _ W (Evl.Ex.refl _) s (.raw _) q⟩
theorem d_all {bs : List Bool} (h : SeqD W x (bs.map D.bl)) (q : Q (.raw (.bl (bs.all id))) W) : RC K (rAll K) [x] W Q := fun B H vs k s r hk => by
  cases r with
  | cons r1 r2 =>
    cases r2
    obtain ⟨a, xs, rfl, g1, g2⟩ := seq_sem s r1 h
    rw [g2.rawsI (f := V.bl) rfl] at g1
    exact ⟨a, bs, rfl, g1, hk _ B H _ W (Evl.Ex.refl _) s (.raw _) q⟩
theorem we_m1 {r : V → List V → Hp → VK → Prop} (q : WE K ta e W fun x W1 => (∃ a, x = .raw (.str a)) ∧ WE K te e W1 fun y W2 => RM K r x [y] W2 Q) : WE K (tM1 r ta te) e W Q := fun B σ H k s r hk =>
  q B σ H _ s r fun v B1 H1 d W1 e1 s1 r1 q1 => by
    obtain ⟨⟨a, rfl⟩, q1⟩ := q1
    cases r1
    refine ⟨⟨a, rfl⟩, q1 B1 σ H1 _ s1 (r.mono e1) fun w B2 H2 d2 W2 e2 s2 r2 q2 => q2 B2 H2 _ _ k s2 (.raw _) (.cons r2 .nil) fun v B3 H3 d3 W3 e3 => hk v B3 H3 d3 W3 ((e1.trans e2).trans e3)⟩
theorem d_isS {a : Str} {P : Prop} (q : P) : (∃ b, D.raw (.str a) = .raw (.str b)) ∧ P := ⟨⟨a, rfl⟩, q⟩
theorem d_join {a : Str} {ys : List Str} (h : SeqD W x (ys.map D.str)) (hl : (ys.map (·.length)).sum + ys.length * a.length ≤ 16777216) (q : Q (.raw (.str (Txt.join a ys))) W) : RM K (rJoin K) (.raw (.str a)) [x] W Q := fun B H v vs k s r1 r2 hk => by
  cases r1
  cases r2 with
  | cons r2 r3 =>
    cases r3
    obtain ⟨p, xs, rfl, g1, g2⟩ := seq_sem s r2 h
    rw [g2.rawsI (f := V.str) rfl] at g1
    exact ⟨a, p, ys, rfl, rfl, .inl g1, hl, hk _ B H _ W (Evl.Ex.refl _) s (.raw _) q⟩
theorem d_split {a b : Str} (h1 : (b.length == 0) = false) (h2 : a.length + 2 ≤ sizeLine) (q : ∀ p, W p = none → Q (.ptr p) (wset W p (.lst ((Txt.split a b).map D.str)))) : RM K rSplit (.raw (.str a)) [.raw (.str b)] W Q := fun B H v vs k s r1 r2 hk => by
  cases r1
  cases r2 with
  | cons r2 r3 =>
    cases r3; cases r2
    refine ⟨a, b, rfl, rfl, h1, h2, fun p hp => hk _ _ _ _ _ (Evl.Ex.refl _) (s.new hp (.lst (?_ : Reps K B ((Txt.split a b).map V.str) ((Txt.split a b).map D.str)))) (.raw _) (q p (s.nnone hp))⟩
    have := Reps.raws (K := K) (S := B) ((Txt.split a b).map V.str)
    rwa [List.map_map] at this
theorem d_find {a b : Str} (q : Q (.raw (.int (Txt.find a b))) W) : RM K rFindS (.raw (.str a)) [.raw (.str b)] W Q := fun B H v vs k s r1 r2 hk => by
  cases r1
  cases r2 with
  | cons r2 r3 => cases r3; cases r2; exact ⟨a, b, rfl, rfl, hk _ B H _ W (Evl.Ex.refl _) s (.raw _) q⟩
theorem we_bm {r : V → List V → Hp → VK → Prop} (q : WE K ta e W fun x W1 => (∃ ds, SeqD W1 x ds) ∧ WA K tl e W1 fun xs W2 => RM K r x xs W2 Q) : WE K (tBM K "list" r ta tl) e W Q := fun B σ H k s r hk =>
  q B σ H _ s r fun v B1 H1 d W1 e1 s1 r1 q1 => by
    obtain ⟨⟨ds, hd⟩, q1⟩ := q1
    obtain ⟨a, xs, rfl, g1, g2⟩ := seq_sem s1 r1 hd
    refine ⟨.inl ⟨rfl, xs, g1⟩, q1 B1 σ H1 _ s1 (r.mono e1) fun vs B2 H2 d2 W2 e2 s2 r2 q2 => q2 B2 H2 _ _ k s2 (r1.mono e2) r2 fun v B3 H3 d3 W3 e3 => hk v B3 H3 d3 W3 ((e1.trans e2).trans e3)⟩
theorem we_bm0 {r : V → List V → Hp → VK → Prop} (q : WE K ta e W fun x W1 => (∃ ds, SeqD W1 x ds) ∧ RM K r x [] W1 Q) : WE K (tBM0 K "list" r ta) e W Q := fun B σ H k s r hk =>
  q B σ H _ s r fun v B1 H1 d W1 e1 s1 r1 q1 => by
    obtain ⟨⟨ds, hd⟩, q1⟩ := q1
    obtain ⟨a, xs, rfl, g1, g2⟩ := seq_sem s1 r1 hd
    exact ⟨.inl ⟨rfl, xs, g1⟩, q1 B1 H1 _ _ k s1 r1 .nil fun v B3 H3 d3 W3 e3 => hk v B3 H3 d3 W3 (e1.trans e3)⟩
theorem d_seq {P : Prop} (h : SeqD W x ds) (q : P) : (∃ ds, SeqD W x ds) ∧ P := ⟨⟨ds, h⟩, q⟩
variable {a : Addr}
theorem d_app (h : W a = some (.lst ds)) (hl : ds.length < sizeLine) (q : Q (.raw .non) (wset W a (.lst (ds ++ [y])))) : RM K rAppend (.raw (.ref a)) [y] W Q := fun B H v vs k s r1 r2 hk => by
  cases r1
  cases r2 with
  | cons r2 r3 =>
    cases r3
    obtain ⟨xs, g1, g2⟩ := s.lst h
    exact w_app g1 (by rw [g2.len]; exact hl) (hk _ B _ _ _ (Evl.Ex.refl _) (s.set h (.lst (g2.app (.cons r2 .nil)))) (.raw _) q)
theorem d_ext (h : W a = some (.lst ds)) (h2 : CatD W y es) (hl : ds.length + es.length ≤ sizeLine) (q : Q (.raw .non) (wset W a (.lst (ds ++ es)))) : RM K rExtend (.raw (.ref a)) [y] W Q := fun B H v vs k s r1 r2 hk => by
  cases r1
  cases r2 with
  | cons r2 r3 =>
    cases r3
    obtain ⟨xs, g1, g2⟩ := s.lst h
    obtain ⟨b, ys, rfl, g3, g4⟩ := cat_sem s r2 h2
    exact w_ext g1 g3 (by rw [g2.len, g4.len]; exact hl) (hk _ B _ _ _ (Evl.Ex.refl _) (s.set h (.lst (g2.app g4))) (.raw _) q)
theorem d_pop (h : W a = some (.lst (ds ++ [y]))) (q : Q y (wset W a (.lst ds))) : RM K rPop (.raw (.ref a)) [] W Q := fun B H v vs k s r1 r2 hk => by
  cases r1; cases r2
  obtain ⟨xs, g1, g2⟩ := s.lst h
  have hl := g2.len
  obtain ⟨w, g3, g4⟩ := g2.get (i := ds.length) (d := y) (by simp)
  have hx : xs = xs.take ds.length ++ [w] := by
    have : xs = xs.take ds.length ++ xs.drop ds.length := (List.take_append_drop _ _).symm
    rw [List.length_append, List.length_singleton] at hl
    rw [this, List.drop_eq_getElem_cons (by omega), List.drop_of_length_le (by omega)]
    congr 1
    · rw [List.take_append_of_le_length (by simp; omega), List.take_take, Nat.min_self]
    · rw [List.getElem?_eq_getElem (by omega)] at g3; cases g3; rfl
  have g5 := g2.take ds.length
  rw [List.take_left' rfl] at g5
  rw [hx] at g1
  exact w_pop g1 (hk _ B _ _ _ (Evl.Ex.refl _) (s.set h (.lst g5)) g4 q)
theorem d_clr (h : W a = some (.lst ds)) (q : Q (.raw .non) (wset W a (.lst []))) : RM K rClear (.raw (.ref a)) [] W Q := fun B H v vs k s r1 r2 hk => by
  cases r1; cases r2
  obtain ⟨xs, g1, g2⟩ := s.lst h
  exact w_clr g1 (hk _ B _ _ _ (Evl.Ex.refl _) (s.set h (.lst .nil)) (.raw _) q)
theorem reps_rev {xs : List V} (r : Reps K B xs ds) : Reps K B xs.reverse ds.reverse := by
  induction xs generalizing ds with
  | nil => cases r; exact .nil
  | cons x xs ih => cases r with | cons h t => rw [List.reverse_cons, List.reverse_cons]; exact (ih t).app (.cons h .nil)
theorem d_rev (h : W a = some (.lst ds)) (q : Q (.raw .non) (wset W a (.lst ds.reverse))) : RM K rReverse (.raw (.ref a)) [] W Q := fun B H v vs k s r1 r2 hk => by
  cases r1; cases r2
  obtain ⟨xs, g1, g2⟩ := s.lst h
  exact ⟨a, xs, rfl, rfl, g1, hk _ B _ _ _ (Evl.Ex.refl _) (s.set h (.lst (reps_rev g2))) (.raw _) q⟩
theorem wg_sub {to ti : TE} {t : TSet} {QE : Env → Wd → Prop} (q : WE K to e W fun o W1 => WE K ti e W1 fun i W2 => RSt K t o i x W2 fun W3 => QE e W3) : WG K (gSub to ti t) x e W QE := fun B σ H v k s r r1 hk =>
  q B σ H _ s r fun o B1 H1 d1 W1 e1 s1 g1 q1 => q1 B1 σ H1 _ s1 (r.mono e1) fun i B2 H2 d2 W2 e2 s2 g2 q2 => q2 B2 H2 o i v _ s2 (g1.mono e2) g2 (r1.mono (e1.trans e2)) fun B3 H3 W3 e3 s3 q3 => hk σ B3 H3 e W3 ((e1.trans e2).trans e3) s3 (r.mono ((e1.trans e2).trans e3)) q3
theorem d_setL {j : Int} {n : Nat} {QW : Wd → Prop} (h : W a = some (.lst ds)) (hj : ixN ds.length j = some n) (q : QW (wset W a (.lst (ds.set n x)))) : RSt K rSetL (.raw (.ref a)) (.raw (.int j)) x W QW := fun B H u v w k s r1 r2 r3 hk => by
  cases r1; cases r2
  obtain ⟨xs, g1, g2⟩ := s.lst h
  exact ⟨a, xs, j, n, rfl, rfl, g1, by rw [g2.len]; exact hj, hk B _ _ (Evl.Ex.refl _) (s.set h (.lst (g2.set r3 n))) q⟩
inductive FldD (W : Wd) (f : Str) : D → Addr → D → Prop
  | own {a C : Addr} {fs : List (Str × D)} {d : D} (h : W a = some (.ins C fs)) (l : fs.lookup f = some d) : FldD W f (.raw (.ref a)) C d
  | obj {C : Addr} {ns : List Str} {ds : List D} {d : D} (l : (ns.zip ds).lookup f = some d) : FldD W f (.obj C ns ds) C d
theorem zip_look {f : Str} {ns : List Str} {xs : List V} (h : Reps K B xs ds) (l : (ns.zip ds).lookup f = some d) : ∃ v, (ns.zip xs).lookup f = some v ∧ Rep K B v d := by
  induction ns generalizing xs ds with
  | nil => cases l
  | cons n ns ih =>
    cases h with
    | nil => cases l
    | cons h t =>
      rw [List.zip_cons_cons, List.lookup_cons] at l ⊢
      split at l
      · cases l; exact ⟨_, rfl, h⟩
      · exact ih t l
theorem we_fld {f : Str} (q : WE K ta e W fun x W1 => ∃ C d, FldD W1 f x C d ∧ Cls K C ∧ NoAttr K C f ∧ Q d W1) : WE K (tFld K ta f) e W Q := fun B σ H k s r hk =>
  q B σ H _ s r fun v B1 H1 d W1 e1 s1 r1 q1 => by
    obtain ⟨C, d2, hf, hc, hn, q1⟩ := q1
    cases hf with
    | own h l =>
      cases r1
      obtain ⟨dx, fs', g1, g2⟩ := s1.ins h
      obtain ⟨u, g3, g4⟩ := g2.look l
      exact ⟨_, C, dx, fs', u, rfl, g1, hc, hn, g3, hk u B1 H1 d2 W1 e1 s1 g4 q1⟩
    | obj l =>
      cases r1 with
      | obj h hl hs =>
        obtain ⟨u, g3, g4⟩ := zip_look hs l
        exact ⟨_, C, _, _, u, rfl, s1.ex _ _ h, hc, hn, g3, hk u B1 H1 d2 W1 e1 s1 g4 q1⟩
theorem d_fldW {f : Str} {C : Addr} {fs : List (Str × D)} {P : D → Prop} (h : W a = some (.ins C fs)) (c : Cls K C) (n : NoAttr K C f) (l : fs.lookup f = some d) (q : P d) : ∃ C d, FldD W f (.raw (.ref a)) C d ∧ Cls K C ∧ NoAttr K C f ∧ P d := ⟨C, d, .own h l, c, n, q⟩
theorem d_fldO {f : Str} {C : Addr} {ns : List Str} {P : D → Prop} (c : Cls K C) (n : NoAttr K C f) (l : (ns.zip ds).lookup f = some d) (q : P d) : ∃ C' d, FldD W f (.obj C ns ds) C' d ∧ Cls K C' ∧ NoAttr K C' f ∧ P d := ⟨C, d, .obj l, c, n, q⟩
def putD (f : Str) (v : D) : List (Str × D) → List (Str × D)
  | [] => [(f, v)]
  | (g, x) :: r => if g = f then (g, v) :: r else (g, x) :: putD f v r
theorem put_sem {f : Str} {r : List (Str × V)} {q : List (Str × D)} (h : RepP K B r q) {v : V} {d : D} (g : Rep K B v d) : RepP K B (putF f v r) (putD f d q) := by
  induction h with
  | nil => exact .cons g .nil
  | cons h t ih =>
    rename_i k w dd r q
    show RepP K B (if k = f then _ else _) (if k = f then _ else _)
    split
    · exact .cons g t
    · exact .cons h ih
theorem ws_fld {f : Str} {tv : TE} (q : WE K tv e W fun y W1 => WE K ta e W1 fun x W2 => ∃ a C fs, x = .ptr a ∧ W2 a = some (.ins C fs) ∧ Cls K C ∧ NoAttr K C f ∧ fs.length < 1000 ∧ E.nx e (wset W2 a (.ins C (putD f y fs)))) : WS K (sFld K ta tv f) e W E := fun Dn B σ H s r h1 h2 h3 h4 =>
  q B σ H _ s r fun v B1 H1 d W1 e1 s1 r1 q1 => q1 B1 σ H1 _ s1 (r.mono e1) fun w B2 H2 d2 W2 e2 s2 r2 q2 => by
    obtain ⟨a, C, fs, rfl, g1, hc, hn, hl, q2⟩ := q2
    cases r2
    obtain ⟨dx, fs', g2, g3⟩ := s2.ins g1
    exact ⟨a, C, dx, fs', rfl, g2, hc, hn, by rw [g3.len]; exact hl, h1 σ B2 _ e _ (e1.trans e2) (s2.set g1 (.ins (put_sem g3 (r1.mono e2)))) (r.mono (e1.trans e2)) q2⟩
theorem d_sfld {f : Str} {C : Addr} {fs fs' : List (Str × D)} {P : Wd → Prop} (h : W a = some (.ins C fs)) (c : Cls K C) (n : NoAttr K C f) (l : fs.length < 1000) (he : putD f y fs = fs') (q : P (wset W a (.ins C fs'))) :
    ∃ a' C fs, D.raw (.ref a) = .ptr a' ∧ W a' = some (.ins C fs) ∧ Cls K C ∧ NoAttr K C f ∧ fs.length < 1000 ∧ P (wset W a' (.ins C (putD f y fs))) := ⟨a, C, fs, rfl, h, c, n, l, he ▸ q⟩
theorem ws_fldaug {f : Str} {tv : TE} {rd : R2} (q : WE K ta e W fun x W1 => ∃ a C fs d, x = .ptr a ∧ W1 a = some (.ins C fs) ∧ Cls K C ∧ NoAttr K C f ∧ fs.lookup f = some d ∧ WE K tv e W1 fun y W2 => RD K rd d y W2 fun z W3 => ∃ fs', W3 a = some (.ins C fs') ∧ fs'.length < 1000 ∧ E.nx e (wset W3 a (.ins C (putD f z fs')))) : WS K (sFldAug K ta tv rd f) e W E := fun Dn B σ H s r h1 h2 h3 h4 =>
  q B σ H _ s r fun v B1 H1 d W1 e1 s1 r1 q1 => by
    obtain ⟨a, C, fs, d0, rfl, g1, hc, hn, hl, q1⟩ := q1
    cases r1
    obtain ⟨dx, fs', g2, g3⟩ := s1.ins g1
    obtain ⟨u, g4, g5⟩ := g3.look hl
    refine ⟨a, C, dx, fs', u, rfl, g2, hc, hn, g4, q1 B1 σ H1 _ s1 (r.mono e1) fun w B2 H2 d2 W2 e2 s2 r2 q2 => q2 B2 H2 u w _ s2 (g5.mono e2) r2 fun z B3 H3 d3 W3 e3 s3 r3 q3 => ?_⟩
    obtain ⟨fs2, g6, hl2, q3⟩ := q3
    obtain ⟨dx', fs3, g7, g8⟩ := s3.ins g6
    exact ⟨dx', fs3, g7, by rw [g8.len]; exact hl2, h1 σ B3 _ e _ ((e1.trans e2).trans e3) (s3.set g6 (.ins (put_sem g8 r3))) (r.mono ((e1.trans e2).trans e3)) q3⟩
theorem d_add {a b : Int} (q : Q (.raw (.int (a + b))) W) : RD K rAdd (.raw (.int a)) (.raw (.int b)) W Q := rd_raw (fun _ _ q => ⟨a, b, rfl, rfl, q⟩) q
section
variable {κ : Type} [DecidableEq κ]
def valD (kvs : List (κ × D)) (k : κ) : Option D := (kvs.find? fun kv => decide (kv.1 = k)).map (·.2)
def putKD (kvs : List (κ × D)) (k : κ) (v : D) : List (κ × D) :=
  if (kvs.any fun kv => decide (kv.1 = k)) = true then kvs.map (fun kv => if kv.1 = k then (kv.1, v) else kv) else kvs ++ [(k, v)]
theorem val_sem {r : List (κ × V)} {q : List (κ × D)} (h : RepP K B r q) (k : κ) : (valD q k = none ∧ valV r k = none) ∨ ∃ v d, valD q k = some d ∧ valV r k = some v ∧ Rep K B v d := by
  induction h with
  | nil => exact .inl ⟨rfl, rfl⟩
  | cons h t ih =>
    rename_i k' v d r q
    unfold valD valV at *
    rw [List.find?_cons, List.find?_cons]
    by_cases z : k' = k
    · simp only [z, decide_true]; exact .inr ⟨v, d, rfl, rfl, h⟩
    · simp only [z, decide_false]; exact ih
theorem any_sem {r : List (κ × V)} {q : List (κ × D)} (h : RepP K B r q) (k : κ) : (q.any fun kv => decide (kv.1 = k)) = (r.any fun kv => decide (kv.1 = k)) := by
  induction h with
  | nil => rfl
  | cons h t ih => rw [List.any_cons, List.any_cons, ih]
theorem putM_sem {r : List (κ × V)} {q : List (κ × D)} (h : RepP K B r q) {k : κ} {v : V} {d : D} (g : Rep K B v d) : RepP K B (r.map fun kv => if kv.1 = k then (kv.1, v) else kv) (q.map fun kv => if kv.1 = k then (kv.1, d) else kv) := by
  induction h with
  | nil => exact .nil
  | cons h t ih =>
    rename_i k' w dd r q
    rw [List.map_cons, List.map_cons]
    by_cases z : k' = k
    · simp only [z, if_true]; exact .cons g ih
    · simp only [z, if_false]; exact .cons h ih
theorem putA_sem {r : List (κ × V)} {q : List (κ × D)} (h : RepP K B r q) {k : κ} {v : V} {d : D} (g : Rep K B v d) : RepP K B (r ++ [(k, v)]) (q ++ [(k, d)]) := by
  induction h with
  | nil => exact .cons g .nil
  | cons h t ih => exact .cons h ih
theorem putK_sem {r : List (κ × V)} {q : List (κ × D)} (h : RepP K B r q) {k : κ} {v : V} {d : D} (g : Rep K B v d) : RepP K B (putK r k v) (putKD q k d) := by
  unfold putK putKD
  rw [any_sem h]
  split
  · exact putM_sem h g
  · exact putA_sem h g
end
inductive DctD (W : Wd) : D → List (Key × D) → Prop
  | own {a : Addr} {q : List (Key × D)} (h : W a = some (.dct q)) : DctD W (.raw (.ref a)) q
  | lock {a : Addr} {o : Obj} {u : HO} {q : List (Key × D)} (h : W a = some (.lock o u q)) : DctD W (.raw (.ref a)) q
theorem dct_sem {q : List (Key × D)} (s : Sta K B W H) (r : Rep K B v d) (h : DctD W d q) : ∃ a kvs, v = .ref a ∧ Rd H a (.dK kvs) ∧ RepP K B kvs q := by
  cases h with
  | own h =>
    cases r
    obtain ⟨r, g1, g2⟩ := s.dct h
    exact ⟨_, r, rfl, .inl g1, g2⟩
  | lock h =>
    cases r
    obtain ⟨_, o, g1, g2⟩ := s.own _ _ h
    cases g2 with | lock g2 => exact ⟨_, _, rfl, .inr ⟨_, g1⟩, g2⟩
def kD (k : Key) : D := .raw (kV k)
theorem we_dnew (q : ∀ p, W p = none → Q (.ptr p) (wset W p (.dct []))) : WE K tDNewK e W Q := fun B σ H k s r hk p hp => hk _ _ _ _ _ (Evl.Ex.refl _) (s.new hp (.dct .nil)) (.raw _) (q p (s.nnone hp))
theorem we_dget (q : WE K ta e W fun x W1 => WE K tb e W1 fun y W2 => ∃ q k d, DctD W2 x q ∧ y = kD k ∧ valD q k = some d ∧ Q d W2) : WE K (tDGet ta tb) e W Q := fun B σ H k s r hk =>
  q B σ H _ s r fun v B1 H1 d W1 e1 s1 r1 q1 => q1 B1 σ H1 _ s1 (r.mono e1) fun w B2 H2 d2 W2 e2 s2 r2 q2 => by
    obtain ⟨q, k0, d3, hd, rfl, hv, q2⟩ := q2
    obtain ⟨a, kvs, rfl, g1, g2⟩ := dct_sem s2 (r1.mono e2) hd
    cases r2
    rcases val_sem g2 k0 with ⟨z, _⟩ | ⟨u, d4, z1, z2, z3⟩
    · rw [z] at hv; cases hv
    · rw [z1] at hv; cases hv
      exact ⟨a, u, rfl, .inl ⟨kvs, k0, g1, rfl, z2.symm⟩, hk u B2 H2 _ W2 (e1.trans e2) s2 z3 q2⟩
theorem we_din (q : WE K tb e W fun y W1 => WE K ta e W1 fun x W2 => ∃ q k, DctD W2 x q ∧ y = kD k ∧ Q (.raw (.bl (valD q k).isSome)) W2) : WE K (tDIn tb ta) e W Q := fun B σ H k s r hk =>
  q B σ H _ s r fun v B1 H1 d W1 e1 s1 r1 q1 => q1 B1 σ H1 _ s1 (r.mono e1) fun w B2 H2 d2 W2 e2 s2 r2 q2 => by
    obtain ⟨q, k0, hd, rfl, q2⟩ := q2
    obtain ⟨a, kvs, rfl, g1, g2⟩ := dct_sem s2 r2 hd
    cases r1
    refine ⟨a, valV kvs k0, rfl, .inl ⟨kvs, k0, g1, rfl, rfl⟩, ?_⟩
    have : (valV kvs k0).isSome = (valD q k0).isSome := by
      rcases val_sem g2 k0 with ⟨z, z2⟩ | ⟨u, d4, z1, z2, z3⟩
      · rw [z, z2]; rfl
      · rw [z1, z2]; rfl
    rw [this]
    exact hk _ B2 H2 _ W2 (e1.trans e2) s2 (.raw _) q2
theorem we_dnotin (q : WE K tb e W fun y W1 => WE K ta e W1 fun x W2 => ∃ q k, DctD W2 x q ∧ y = kD k ∧ Q (.raw (.bl (!(valD q k).isSome))) W2) : WE K (tDNotIn tb ta) e W Q := fun B σ H k s r hk =>
  q B σ H _ s r fun v B1 H1 d W1 e1 s1 r1 q1 => q1 B1 σ H1 _ s1 (r.mono e1) fun w B2 H2 d2 W2 e2 s2 r2 q2 => by
    obtain ⟨q, k0, hd, rfl, q2⟩ := q2
    obtain ⟨a, kvs, rfl, g1, g2⟩ := dct_sem s2 r2 hd
    cases r1
    refine ⟨a, valV kvs k0, rfl, .inl ⟨kvs, k0, g1, rfl, rfl⟩, ?_⟩
    have : (valV kvs k0).isSome = (valD q k0).isSome := by
      rcases val_sem g2 k0 with ⟨z, z2⟩ | ⟨u, d4, z1, z2, z3⟩
      · rw [z, z2]; rfl
      · rw [z1, z2]; rfl
    rw [this]
    exact hk _ B2 H2 _ W2 (e1.trans e2) s2 (.raw _) q2
theorem d_dct {P : List (Key × D) → Key → Prop} {q : List (Key × D)} {k : Key} (h : DctD W x q) (z : P q k) : ∃ q' k', DctD W x q' ∧ kD k = kD k' ∧ P q' k' := ⟨q, k, h, rfl, z⟩
theorem d_dgetI {q : List (Key × D)} {k : Int} (h : DctD W x q) (hv : valD q (.inl k) = some d) (z : Q d W) : ∃ q k' d, DctD W x q ∧ D.raw (.int k) = kD k' ∧ valD q k' = some d ∧ Q d W := ⟨q, .inl k, d, h, rfl, hv, z⟩
theorem d_dgetS {q : List (Key × D)} {k : Str} (h : DctD W x q) (hv : valD q (.inr k) = some d) (z : Q d W) : ∃ q k' d, DctD W x q ∧ D.raw (.str k) = kD k' ∧ valD q k' = some d ∧ Q d W := ⟨q, .inr k, d, h, rfl, hv, z⟩
theorem d_dinI {P : Bool → Prop} {q : List (Key × D)} {k : Int} (h : DctD W x q) (z : P (valD q (.inl k)).isSome) : ∃ q k', DctD W x q ∧ D.raw (.int k) = kD k' ∧ P (valD q k').isSome := ⟨q, .inl k, h, rfl, z⟩
theorem d_dinS {P : Bool → Prop} {q : List (Key × D)} {k : Str} (h : DctD W x q) (z : P (valD q (.inr k)).isSome) : ∃ q k', DctD W x q ∧ D.raw (.str k) = kD k' ∧ P (valD q k').isSome := ⟨q, .inr k, h, rfl, z⟩
theorem ws_dput {td ty tv : TE} (q : WE K tv e W fun v W1 => WE K td e W1 fun x W2 => WE K ty e W2 fun y W3 => ∃ a q k, x = .ptr a ∧ W3 a = some (.dct q) ∧ y = kD k ∧ q.length < sizeLine ∧ E.nx e (wset W3 a (.dct (putKD q k v)))) : WS K (sDPut td ty tv) e W E := fun Dn B σ H s r h1 h2 h3 h4 =>
  q B σ H _ s r fun v B1 H1 d1 W1 e1 s1 r1 q1 => q1 B1 σ H1 _ s1 (r.mono e1) fun w B2 H2 d2 W2 e2 s2 r2 q2 => q2 B2 σ H2 _ s2 ((r.mono e1).mono e2) fun u B3 H3 d3 W3 e3 s3 r3 q3 => by
    obtain ⟨a, q, k, rfl, g1, rfl, hl, q3⟩ := q3
    cases r2; cases r3
    obtain ⟨kvs, g2, g3⟩ := s3.dct g1
    exact ⟨a, _, rfl, .inl ⟨kvs, k, g2, rfl, by rw [g3.len]; exact hl, rfl⟩, h1 σ B3 _ e _ ((e1.trans e2).trans e3) (s3.set g1 (.dct (putK_sem g3 ((r1.mono e2).mono e3)))) (r.mono ((e1.trans e2).trans e3)) q3⟩
theorem d_dputI {q : List (Key × D)} {k : Int} {v : D} {P : Wd → Prop} (h : W a = some (.dct q)) (hl : q.length < sizeLine) (z : P (wset W a (.dct (putKD q (.inl k) v)))) : ∃ a' q k', D.raw (.ref a) = .ptr a' ∧ W a' = some (.dct q) ∧ D.raw (.int k) = kD k' ∧ q.length < sizeLine ∧ P (wset W a' (.dct (putKD q k' v))) := ⟨a, q, .inl k, rfl, h, rfl, hl, z⟩
theorem d_dputS {q : List (Key × D)} {k : Str} {v : D} {P : Wd → Prop} (h : W a = some (.dct q)) (hl : q.length < sizeLine) (z : P (wset W a (.dct (putKD q (.inr k) v)))) : ∃ a' q k', D.raw (.ref a) = .ptr a' ∧ W a' = some (.dct q) ∧ D.raw (.str k) = kD k' ∧ q.length < sizeLine ∧ P (wset W a' (.dct (putKD q k' v))) := ⟨a, q, .inr k, rfl, h, rfl, hl, z⟩
theorem d_lenD {q : List (Key × D)} (h : W a = some (.dct q)) (z : Q (.raw (.int q.length)) W) : RC K rLenD [.raw (.ref a)] W Q := fun B H vs k s r hk => by
  cases r with
  | cons r1 r2 =>
    cases r1; cases r2
    obtain ⟨kvs, g2, g3⟩ := s.dct h
    exact ⟨a, kvs, rfl, g2, by rw [g3.len]; exact hk _ B H _ W (Evl.Ex.refl _) s (.raw _) z⟩
theorem ty_lst (s : Sta K B W H) (r : Rep K B v x) (h : SeqD W x ds) : TyX K H v (.type "list") := by
  obtain ⟨a, xs, rfl, g1, _⟩ := seq_sem s r h
  exact ty_list g1
theorem d_isiL {n : String} {b : Bool} (h : SeqD W x ds) (hk : kitB "list" n = some b) (q : Q (.raw (.bl b)) W) : RC K (rIsi K) [x, .raw (.ty n)] W Q := fun B H vs k s r hq => by
  cases r with
  | cons r1 r2 =>
    cases r2 with
    | cons r2 r3 =>
      cases r2; cases r3
      obtain ⟨a, xs, rfl, g1, _⟩ := seq_sem s r1 h
      exact w_isiSL g1 hk (hq _ B H _ W (Evl.Ex.refl _) s (.raw _) q)
theorem d_isiT {n : String} {b : Bool} (hk : kitB "tuple" n = some b) (q : Q (.raw (.bl b)) W) : RC K (rIsi K) [.tup ds, .raw (.ty n)] W Q := fun B H vs k s r hq => by
  cases r with
  | cons r1 r2 =>
    cases r2 with
    | cons r2 r3 =>
      cases r2; cases r3
      cases r1 with
      | tup g1 hs => exact w_isiST (ex_st s.ex g1) hk (hq _ B H _ W (Evl.Ex.refl _) s (.raw _) q)
theorem d_isiI {n : String} {b : Bool} {j : Int} (hk : kitB "int" n = some b) (q : Q (.raw (.bl b)) W) : RC K (rIsi K) [.raw (.int j), .raw (.ty n)] W Q := rc_raw2 (fun _ _ => w_isiI hk) q
theorem d_isiB {n : String} {b j : Bool} (hk : kitB "bool" n = some b) (q : Q (.raw (.bl b)) W) : RC K (rIsi K) [.raw (.bl j), .raw (.ty n)] W Q := rc_raw2 (fun _ _ => w_isiB hk) q
theorem d_isiN {n : String} {b : Bool} (hk : kitB "NoneType" n = some b) (q : Q (.raw (.bl b)) W) : RC K (rIsi K) [.raw .non, .raw (.ty n)] W Q := rc_raw2 (fun _ _ => w_isiN hk) q
theorem d_isiS {n : String} {b : Bool} {j : Str} (hk : kitB "str" n = some b) (q : Q (.raw (.bl b)) W) : RC K (rIsi K) [.raw (.str j), .raw (.ty n)] W Q := rc_raw2 (fun _ _ => w_isiS hk) q
end
end RT

set_option Elab.async false
set_option linter.all false
set_option maxRecDepth 100000
set_option maxHeartbeats 2000000
set_option autoImplicit false
namespace RT
open PySem L2
structure ItD where
  n : Nat
  dep : Wd → Prop
  grow : ∀ W W', Sub W W' → dep W → dep W'
  item : Nat → Option D
def ItOk (K : PySem.W.Frag) (B : Hp) (J : It) (I : ItD) : Prop := ∃ (G : Hp → Prop) (Y : Nat → Hp → V → Hp → Prop), Walk J I.n G Y ∧ (∀ B2 W2 H2, Ex B B2 → Sta K B2 W2 H2 → I.dep W2 → G H2) ∧
  ∀ i B2 W2 H2 x H3, i < I.n → Ex B B2 → Sta K B2 W2 H2 → I.dep W2 → Y i H2 x H3 → ∃ B3 d, Ex B2 B3 ∧ Sta K B3 W2 H3 ∧ I.item i = some d ∧ Rep K B3 x d
def WI (K : PySem.W.Frag) (wi : TI) (e : Env) (W : Wd) (QI : ItD → Wd → Prop) : Prop :=
  ∀ (B : Hp) (σ : L2.St) (H : Hp) (k : It → Hp → Prop), Sta K B W H → EnvR K B σ e → (∀ J B' H' I W', Ex B B' → Sta K B' W' H' → ItOk K B' J I → I.dep W' → QI I W' → k J H') → wi σ H k
def itS (x : D) (ds : List D) : ItD := ⟨ds.length, fun W => SeqD W x ds, fun _ _ m h => h.er m, fun i => ds[i]?⟩
def itT (ds : List D) : ItD := ⟨ds.length, fun _ => True, fun _ _ _ h => h, fun i => ds[i]?⟩
def itStr (z : Str) : ItD := ⟨z.length, fun _ => True, fun _ _ _ h => h, fun i => z.cps[i]?.map fun c => .raw (.str ⟨#[c]⟩)⟩
def itR (lo c : Int) (n : Nat) : ItD := ⟨n, fun _ => True, fun _ _ _ h => h, fun i => some (.raw (.int (lo + (i : Nat) * c)))⟩
def itE (x : D) (ds : List D) : ItD := ⟨ds.length, fun W => SeqD W x ds, fun _ _ m h => h.er m, fun i => ds[i]?.map fun d => .tup [.raw (.int (i : Nat)), d]⟩
def itZ (x y : D) (ds es : List D) : ItD := ⟨min ds.length es.length, fun W => SeqD W x ds ∧ SeqD W y es, fun _ _ m h => ⟨h.1.er m, h.2.er m⟩, fun i => (ds[i]?).bind fun d => (es[i]?).map fun e => .tup [d, e]⟩
def itV (x : D) (ds : List D) : ItD := ⟨ds.length, fun W => SeqD W x ds, fun _ _ m h => h.er m, fun i => ds[ds.length - 1 - i]?⟩
section
variable {K : PySem.W.Frag} {e : Env} {W : Wd} {te ta tb tx ty : TE} {Q : KD} {ts tu tw : TS} {E : DE} {x y z d : D} {i : Nat} {tr tl : TA} {B H : Hp} {v : V} {ds es : List D} {QI : ItD → Wd → Prop}
theorem it_list {a : Addr} (r : Rep K B (.ref a) x) : ItOk K B (Itl K a) (itS x ds) := by
  refine ⟨fun H => ∃ xs, SqL K H a xs ∧ xs.length = ds.length, fun i H y H' => H' = H ∧ ∀ xs, SqL K H a xs → xs[i]? = some y, ⟨fun i H hi q => ?_, fun H q => ?_, fun i H y H' hi q w => w⟩, fun B2 W2 H2 e2 s2 dp => ?_, fun i B2 W2 H2 y H3 hi e2 s2 dp w => ?_⟩
  · obtain ⟨xs, h1, h2⟩ := q
    exact ⟨xs, xs[i]'(by rw [h2]; exact hi), h1, by simp⟩
  · obtain ⟨xs, h1, h2⟩ := q
    exact ⟨xs, h1, Nat.le_of_eq h2⟩
  · obtain ⟨a', xs, h0, h1, h2⟩ := seq_sem s2 (r.mono e2) dp
    cases h0
    exact ⟨xs, h1, h2.len⟩
  · obtain ⟨a', xs, h0, h1, h2⟩ := seq_sem s2 (r.mono e2) dp
    cases h0
    obtain ⟨rfl, w⟩ := w
    obtain ⟨d, h3, h4⟩ := h2.get' (w xs h1)
    exact ⟨B2, d, Evl.Ex.refl _, s2, h3, h4⟩
theorem wi_list (q : WE K te e W fun x W1 => ∃ ds, SeqD W1 x ds ∧ QI (itS x ds) W1) : WI K (iList K te) e W QI := fun B σ H k s r hk =>
  q B σ H _ s r fun v B1 H1 d W1 e1 s1 r1 q1 => by
    obtain ⟨ds, h1, q1⟩ := q1
    obtain ⟨a, xs, rfl, h2, h3⟩ := seq_sem s1 r1 h1
    exact ⟨a, rfl, ⟨xs, h2⟩, hk _ B1 H1 _ W1 e1 s1 (it_list r1) h1 q1⟩
theorem d_sq {P : List D → Prop} (h : SeqD W x ds) (q : P ds) : ∃ ds, SeqD W x ds ∧ P ds := ⟨ds, h, q⟩
theorem wi_tup (q : WE K te e W fun x W1 => ∃ ds, x = .tup ds ∧ QI (itT ds) W1) : WI K (iTup K te) e W QI := fun B σ H k s r hk =>
  q B σ H _ s r fun v B1 H1 d W1 e1 s1 r1 q1 => by
    obtain ⟨ds, rfl, q1⟩ := q1
    cases r1 with
    | tup h hs =>
      rename_i a xs
      refine ⟨a, rfl, ⟨xs, ex_st s1.ex h⟩, hk _ B1 H1 _ W1 e1 s1 ⟨fun H => SqT K H a xs, YAt xs, ?_, fun B2 W2 H2 e2 s2 _ => ex_st (e2.trans s2.ex) h, fun i B2 W2 H2 y H3 hi e2 s2 dp w => ?_⟩ trivial q1⟩
      · have := walk_tup (K := K) (a := a) (xs := xs)
        rw [hs.len] at this
        exact this
      · obtain ⟨rfl, w⟩ := w
        obtain ⟨d, h3, h4⟩ := (hs.mono e2).get' w
        exact ⟨B2, d, Evl.Ex.refl _, s2, h3, h4⟩
theorem d_tp {P : List D → Prop} (q : P ds) : ∃ es, D.tup ds = .tup es ∧ P es := ⟨ds, rfl, q⟩
theorem wi_str (q : WE K te e W fun x W1 => ∃ z, x = .raw (.str z) ∧ QI (itStr z) W1) : WI K (iStr te) e W QI := fun B σ H k s r hk =>
  q B σ H _ s r fun v B1 H1 d W1 e1 s1 r1 q1 => by
    obtain ⟨z, rfl, q1⟩ := q1
    cases r1
    refine ⟨z, rfl, hk _ B1 H1 _ W1 e1 s1 ⟨_, _, walk_str, fun _ _ _ _ _ _ => trivial, fun i B2 W2 H2 y H3 hi e2 s2 dp w => ?_⟩ trivial q1⟩
    obtain ⟨rfl, c, h1, rfl⟩ := w
    exact ⟨B2, _, Evl.Ex.refl _, s2, by show Option.map _ z.cps[i]? = _; rw [h1]; rfl, .raw _⟩
theorem d_st {P : Str → Prop} {a : Str} (q : P a) : ∃ z, D.raw (.str a) = .raw (.str z) ∧ P z := ⟨a, rfl, q⟩
theorem it_rng {lo : Int} {n : Nat} : ItOk K B (Itr lo n) (itR lo 1 n) :=
  ⟨_, _, walk_range, fun _ _ _ _ _ _ => trivial, fun i B2 W2 H2 y H3 hi e2 s2 dp w => by
    obtain ⟨rfl, rfl⟩ := w
    exact ⟨B2, _, Evl.Ex.refl _, s2, by show some (D.raw (.int (lo + (i : Nat) * 1))) = _; rw [Int.mul_one], .raw _⟩⟩
theorem wi_rng1 (q : WA K tl e W fun ds W1 => ∃ j : Int, ds = [.raw (.int j)] ∧ (-(2 ^ 62) ≤ j ∧ j < 2 ^ 62) ∧ QI (itR 0 1 j.toNat) W1) : WI K (iRng1 tl) e W QI := fun B σ H k s r hk =>
  q B σ H _ s r fun vs B1 H1 ds W1 e1 s1 r1 q1 => by
    obtain ⟨j, rfl, ⟨h1, h2⟩, q1⟩ := q1
    cases r1 with
    | cons r1 r2 =>
      cases r1; cases r2
      exact ⟨j, rfl, h1, h2, hk _ B1 H1 _ W1 e1 s1 it_rng trivial q1⟩
theorem d_r1 {j : Int} {P : Int → Prop} (h : -(2 ^ 62) ≤ j ∧ j < 2 ^ 62) (q : P j) : ∃ i : Int, [D.raw (.int j)] = [.raw (.int i)] ∧ (-(2 ^ 62) ≤ i ∧ i < 2 ^ 62) ∧ P i := ⟨j, rfl, h, q⟩
theorem wi_rng2 (q : WA K tl e W fun ds W1 => ∃ i j : Int, ds = [.raw (.int i), .raw (.int j)] ∧ (-(2 ^ 62) ≤ i ∧ i < 2 ^ 62 ∧ -(2 ^ 62) ≤ j ∧ j < 2 ^ 62) ∧ QI (itR i 1 (j - i).toNat) W1) : WI K (iRng2 tl) e W QI := fun B σ H k s r hk =>
  q B σ H _ s r fun vs B1 H1 ds W1 e1 s1 r1 q1 => by
    obtain ⟨i, j, rfl, h1, q1⟩ := q1
    cases r1 with
    | cons r1 r2 =>
      cases r2 with
      | cons r2 r3 =>
        cases r1; cases r2; cases r3
        exact ⟨i, j, rfl, h1, hk _ B1 H1 _ W1 e1 s1 it_rng trivial q1⟩
theorem d_r2 {a b : Int} {P : Int → Int → Prop} (h : -(2 ^ 62) ≤ a ∧ a < 2 ^ 62 ∧ -(2 ^ 62) ≤ b ∧ b < 2 ^ 62) (q : P a b) : ∃ i j : Int, [D.raw (.int a), .raw (.int b)] = [.raw (.int i), .raw (.int j)] ∧ (-(2 ^ 62) ≤ i ∧ i < 2 ^ 62 ∧ -(2 ^ 62) ≤ j ∧ j < 2 ^ 62) ∧ P i j := ⟨a, b, rfl, h, q⟩
theorem wi_rng3 (q : WA K tl e W fun ds W1 => ∃ (i j c : Int) (n : Nat), ds = [.raw (.int i), .raw (.int j), .raw (.int c)] ∧ RgC i j c n ∧ QI (itR i c n) W1) : WI K (iRng3 tl) e W QI := fun B σ H k s r hk =>
  q B σ H _ s r fun vs B1 H1 ds W1 e1 s1 r1 q1 => by
    obtain ⟨i, j, c, n, rfl, h1, q1⟩ := q1
    cases r1 with
    | cons r1 r2 =>
      cases r2 with
      | cons r2 r3 =>
        cases r3 with
        | cons r3 r4 =>
          cases r1; cases r2; cases r3; cases r4
          refine ⟨i, j, c, n, rfl, h1, hk _ B1 H1 _ W1 e1 s1 ⟨_, _, walk_rangeC, fun _ _ _ _ _ _ => trivial, fun i B2 W2 H2 y H3 hi e2 s2 dp w => ?_⟩ trivial q1⟩
          obtain ⟨rfl, rfl⟩ := w
          exact ⟨B2, _, Evl.Ex.refl _, s2, rfl, .raw _⟩
theorem d_r3 {a b c : Int} {n : Nat} {P : Int → Int → Int → Nat → Prop} (h : RgC a b c n) (q : P a b c n) : ∃ (i j z : Int) (m : Nat), [D.raw (.int a), .raw (.int b), .raw (.int c)] = [.raw (.int i), .raw (.int j), .raw (.int z)] ∧ RgC i j z m ∧ P i j z m := ⟨a, b, c, n, rfl, h, q⟩
theorem pair_sem {B2 H2 : Hp} {W2 : Wd} {T : Addr} {u w : V} {d1 d2 : D} (s : Sta K B2 W2 H2) (hT : H2 T = none) (r1 : Rep K B2 u d1) (r2 : Rep K B2 w d2) : ∃ B3, Ex B2 B3 ∧ Sta K B3 W2 (upd H2 T (.tup [u, w])) ∧ Rep K B3 (.ref T) (.tup [d1, d2]) :=
  ⟨_, (s.newB hT).2, (s.newB hT).1, .tup (SqT.of upd_same) (.cons (r1.mono (s.newB hT).2) (.cons (r2.mono (s.newB hT).2) .nil))⟩
theorem wi_enum (q : WA K tl e W fun vs W1 => ∃ x ds, vs = [x] ∧ SeqD W1 x ds ∧ QI (itE x ds) W1) : WI K (iEnum K tl) e W QI := fun B σ H k s r hk =>
  q B σ H _ s r fun vs B1 H1 d W1 e1 s1 r1 q1 => by
    obtain ⟨x, ds, rfl, h1, q1⟩ := q1
    cases r1 with
    | cons r1 r2 =>
      cases r2
      obtain ⟨a, xs, rfl, h2, h3⟩ := seq_sem s1 r1 h1
      refine ⟨a, xs, rfl, h2, hk _ B1 H1 (itE x ds) W1 e1 s1 ⟨fun H => ∃ xs, SqL K H a xs ∧ xs.length = ds.length, fun i H y H' => ∃ T u, y = .ref T ∧ H T = none ∧ H' = upd H T (.tup [.int (i : Nat), u]) ∧ ∀ xs, SqL K H a xs → xs[i]? = some u, ⟨fun i H hi q => ?_, fun H q => ?_, fun i H y H' hi q w => w⟩, fun B2 W2 H2 e2 s2 dp => ?_, fun i B2 W2 H2 y H3 hi e2 s2 dp w => ?_⟩ h1 q1⟩
      · obtain ⟨xs, h1, h2⟩ := q
        exact ⟨xs, xs[i]'(by rw [h2]; exact hi), h1, by simp⟩
      · obtain ⟨xs, h1, h2⟩ := q
        exact ⟨xs, h1, Nat.le_of_eq h2⟩
      · obtain ⟨a', xs, h0, h1, h2⟩ := seq_sem s2 (r1.mono e2) dp
        cases h0
        exact ⟨xs, h1, h2.len⟩
      · obtain ⟨a', xs, h0, h1, h2⟩ := seq_sem s2 (r1.mono e2) dp
        cases h0
        obtain ⟨T, u, rfl, hT, rfl, w⟩ := w
        obtain ⟨d, h3, h4⟩ := h2.get' (w xs h1)
        obtain ⟨B3, e3, s3, r3⟩ := pair_sem s2 hT (.raw (.int (i : Nat))) h4
        exact ⟨B3, _, e3, s3, by show Option.map _ ds[i]? = _; rw [h3]; rfl, r3⟩
theorem wi_zip (q : WA K tl e W fun vs W1 => ∃ x y ds es, vs = [x, y] ∧ SeqD W1 x ds ∧ SeqD W1 y es ∧ QI (itZ x y ds es) W1) : WI K (iZip K tl) e W QI := fun B σ H k s r hk =>
  q B σ H _ s r fun vs B1 H1 d W1 e1 s1 r1 q1 => by
    obtain ⟨x, y, ds, es, rfl, h1, g1, q1⟩ := q1
    cases r1 with
    | cons r1 r2 =>
      cases r2 with
      | cons r2 r3 =>
        cases r3
        obtain ⟨a, xs, rfl, h2, h3⟩ := seq_sem s1 r1 h1
        obtain ⟨b, ys, rfl, g2, g3⟩ := seq_sem s1 r2 g1
        refine ⟨a, b, xs, ys, rfl, h2, g2, hk _ B1 H1 (itZ x y ds es) W1 e1 s1 ⟨fun H => ∃ xs ys, SqL K H a xs ∧ SqL K H b ys ∧ xs.length = ds.length ∧ ys.length = es.length, fun i H z H' => ∃ T u w, z = .ref T ∧ H T = none ∧ H' = upd H T (.tup [u, w]) ∧ (∀ xs, SqL K H a xs → xs[i]? = some u) ∧ ∀ ys, SqL K H b ys → ys[i]? = some w, ⟨fun i H hi q => ?_, fun H q => ?_, fun i H y H' hi q w => w⟩, fun B2 W2 H2 e2 s2 dp => ?_, fun i B2 W2 H2 y H3 hi e2 s2 dp w => ?_⟩ ⟨h1, g1⟩ q1⟩
        · obtain ⟨xs, ys, k1, k2, k3, k4⟩ := q
          have hi : i < min ds.length es.length := hi
          exact ⟨xs, ys, xs[i]'(by omega), ys[i]'(by omega), k1, k2, by simp, by simp⟩
        · obtain ⟨xs, ys, k1, k2, k3, k4⟩ := q
          exact ⟨xs, ys, k1, k2, by show _ ≤ min ds.length es.length ∨ _ ≤ min ds.length es.length; omega⟩
        · obtain ⟨a', xs, h0, h1, h2⟩ := seq_sem s2 (r1.mono e2) dp.1
          obtain ⟨b', ys, j0, j1, j2⟩ := seq_sem s2 (r2.mono e2) dp.2
          cases h0; cases j0
          exact ⟨xs, ys, h1, j1, h2.len, j2.len⟩
        · obtain ⟨a', xs, h0, h1, h2⟩ := seq_sem s2 (r1.mono e2) dp.1
          obtain ⟨b', ys, j0, j1, j2⟩ := seq_sem s2 (r2.mono e2) dp.2
          cases h0; cases j0
          obtain ⟨T, u, w, rfl, hT, rfl, w1, w2⟩ := w
          obtain ⟨d, h3, h4⟩ := h2.get' (w1 xs h1)
          obtain ⟨d', h5, h6⟩ := j2.get' (w2 ys j1)
          obtain ⟨B3, e3, s3, r3⟩ := pair_sem s2 hT h4 h6
          exact ⟨B3, _, e3, s3, by show Option.bind ds[i]? _ = _; rw [h3]; show Option.map _ es[i]? = _; rw [h5]; rfl, r3⟩
theorem wi_rev (q : WA K tl e W fun vs W1 => ∃ x ds, vs = [x] ∧ SeqD W1 x ds ∧ QI (itV x ds) W1) : WI K (iRev K tl) e W QI := fun B σ H k s r hk =>
  q B σ H _ s r fun vs B1 H1 d W1 e1 s1 r1 q1 => by
    obtain ⟨x, ds, rfl, h1, q1⟩ := q1
    cases r1 with
    | cons r1 r2 =>
      cases r2
      obtain ⟨a, xs, rfl, h2, h3⟩ := seq_sem s1 r1 h1
      refine ⟨a, xs, rfl, h2, hk _ B1 H1 (itV x ds) W1 e1 s1 ⟨fun H => ∃ xs, SqL K H a xs ∧ xs.length = ds.length, fun i H y H' => H' = H ∧ ∀ xs, SqL K H a xs → xs.length = ds.length → xs[ds.length - 1 - i]? = some y, ⟨fun i H hi q => ?_, fun H q => ?_, fun i H y H' hi q w => ?_⟩, fun B2 W2 H2 e2 s2 dp => ?_, fun i B2 W2 H2 y H3 hi e2 s2 dp w => ?_⟩ h1 q1⟩
      · obtain ⟨ys, k1, k2⟩ := q
        have hi : i < ds.length := hi
        have := h3.len
        exact ⟨by omega, ys, ys[xs.length - 1 - i]'(by omega), k1, by simp⟩
      · show xs.length ≤ ds.length
        exact Nat.le_of_eq h3.len
      · refine ⟨w.1, fun ys k1 k2 => ?_⟩
        have := w.2 ys k1
        rwa [h3.len] at this
      · obtain ⟨a', xs, h0, h1, h2⟩ := seq_sem s2 (r1.mono e2) dp
        cases h0
        exact ⟨xs, h1, h2.len⟩
      · obtain ⟨a', xs, h0, h1, h2⟩ := seq_sem s2 (r1.mono e2) dp
        cases h0
        obtain ⟨rfl, w⟩ := w
        obtain ⟨d, h3, h4⟩ := h2.get' (w xs h1 h2.len)
        exact ⟨B2, d, Evl.Ex.refl _, s2, h3, h4⟩
theorem d_one {P : D → List D → Prop} (h : SeqD W x ds) (q : P x ds) : ∃ y es, [x] = [y] ∧ SeqD W y es ∧ P y es := ⟨x, ds, rfl, h, q⟩
theorem d_two {P : D → D → List D → List D → Prop} (h : SeqD W x ds) (h2 : SeqD W y es) (q : P x y ds es) : ∃ x' y' ds es, [x, y] = [x', y'] ∧ SeqD W x' ds ∧ SeqD W y' es ∧ P x' y' ds es := ⟨x, y, ds, es, rfl, h, h2, q⟩
theorem nx_id {P : Env → Wd → Prop} (q : P e W) : Nx P e W := ⟨e, W, EnvLe.refl _, Sub.refl _, q⟩
theorem nx_of {P : Env → Wd → Prop} {e' : Env} {W' : Wd} (l : EnvLe e' e) (m : Sub W' W) (q : P e' W') : Nx P e W := ⟨e', W', l, m, q⟩
theorem nx_le {P : Env → Wd → Prop} {e' : Env} (l : EnvLe e' e) (q : P e' W) : Nx P e W := ⟨e', W, l, Sub.refl _, q⟩
theorem ws_for {wi : TI} {g : TG} (q : WI K wi e W fun I W1 => ∃ P : Nat → Env → Wd → Prop, Nx (P 0) e W1 ∧ (∀ i e' W', i ≤ I.n → P i e' W' → I.dep W') ∧
    (∀ i d e' W', i < I.n → I.item i = some d → P i e' W' → WG K g d e' W' fun e2 W2 => WS K ts e2 W2 { nx := Nx (P (i + 1)), ct := Nx (P (i + 1)), bk := E.nx, rt := E.rt }) ∧ ∀ e' W', P I.n e' W' → E.nx e' W') : WS K (tFor wi g ts) e W E := fun Dn B σ H s r h1 h2 h3 h4 =>
  q B σ H _ s r fun J B1 H1 I W1 e1 s1 ok dp q1 => by
    obtain ⟨P, p0, pd, ps, pe⟩ := q1
    obtain ⟨G, Y, w, hG, hY⟩ := ok
    have down : ∀ j σ' B' H' e' W', Ex B1 B' → Sta K B' W' H' → EnvR K B' σ' e' → Nx (P j) e' W' → ∃ B' e' W', Ex B1 B' ∧ Sta K B' W' H' ∧ EnvR K B' σ' e' ∧ P j e' W' := fun j σ' B' H' e' W' x s' r' q' => by
      obtain ⟨e2, W2, l2, m2, q2⟩ := q'
      exact ⟨B', e2, W2, x, s'.sub m2, r'.le l2, q2⟩
    refine for_it w (fun i σ H => ∃ B' e' W', Ex B1 B' ∧ Sta K B' W' H ∧ EnvR K B' σ e' ∧ P i e' W') (down 0 _ _ _ _ _ (Evl.Ex.refl _) s1 (r.mono e1) p0) (fun i σ H hi p => ?_) ?_ ?_
    · obtain ⟨B', e', W', x, s', r', p'⟩ := p
      exact hG B' W' H x s' (pd i e' W' hi p')
    · rintro i x σ H H' hi ⟨B', e', W', x', s', r', p'⟩ y
      obtain ⟨B3, d, e3, s3, hd, r3⟩ := hY i B' W' H x H' hi x' s' (pd i e' W' (Nat.le_of_lt hi) p') y
      refine ps i d e' W' hi hd p' B3 σ H' x _ s3 (r'.mono e3) r3 fun σ2 B2 H2 e2 W2 x2 s2 r2 q2 => ?_
      exact q2 { Dn with nx := _, ct := _, bk := Dn.nx } B2 σ2 H2 s2 r2 (fun σ' B' H' e' W' x => down (i + 1) σ' B' H' e' W' (((x'.trans e3).trans x2).trans x)) (fun v B' H' d W' x => h2 v B' H' d W' ((((e1.trans x').trans e3).trans x2).trans x)) (fun σ' B' H' e' W' x => h1 σ' B' H' e' W' ((((e1.trans x').trans e3).trans x2).trans x)) fun σ' B' H' e' W' x => down (i + 1) σ' B' H' e' W' (((x'.trans e3).trans x2).trans x)
    · rintro σ H ⟨B', e', W', x', s', r', p'⟩
      exact h1 σ B' H e' W' (e1.trans x') s' r' (pe e' W' p')
theorem ws_while {c : TT} (P : Nat → Env → Wd → Prop) {m : Nat} (h0 : Nx (P m) e W) (hs : ∀ m e' W', P m e' W' → WT K c e' W' fun b W2 => if b = true then WS K ts e' W2 { nx := fun e3 W3 => ∃ m', m' < m ∧ Nx (P m') e3 W3, ct := fun e3 W3 => ∃ m', m' < m ∧ Nx (P m') e3 W3, bk := E.nx, rt := E.rt } else E.nx e' W2) : WS K (tWhile c ts) e W E := fun Dn B σ H s r h1 h2 h3 h4 => by
  have down : ∀ j σ' B' H' e' W', Ex B B' → Sta K B' W' H' → EnvR K B' σ' e' → Nx (P j) e' W' → ∃ B' e' W', Ex B B' ∧ Sta K B' W' H' ∧ EnvR K B' σ' e' ∧ P j e' W' := fun j σ' B' H' e' W' x s' r' q' => by
    obtain ⟨e2, W2, l2, m2, q2⟩ := q'
    exact ⟨B', e2, W2, x, s'.sub m2, r'.le l2, q2⟩
  refine ⟨fun m σ H => ∃ B' e' W', Ex B B' ∧ Sta K B' W' H ∧ EnvR K B' σ e' ∧ P m e' W', ⟨m, down m _ _ _ _ _ (Evl.Ex.refl _) s r h0⟩, ?_⟩
  rintro m σ H ⟨B', e', W', x', s', r', p'⟩
  refine hs m e' W' p' B' σ H _ s' r' fun b B2 H2 W2 e2 s2 q2 => ?_
  cases b with
  | false => exact iteF (h1 σ B2 H2 e' W2 (x'.trans e2) s2 (r'.mono e2) q2)
  | true =>
    refine iteT ⟨fun σ' H' => ∃ m', m' < m ∧ ∃ B' e' W', Ex B B' ∧ Sta K B' W' H' ∧ EnvR K B' σ' e' ∧ P m' e' W', fun σ' H' h => h, ?_⟩
    have q2 : WS K ts e' W2 _ := q2
    exact q2 { Dn with nx := _, ct := _, bk := Dn.nx } B2 σ H2 s2 (r'.mono e2) (fun σ' B' H' e' W' x s'' r'' q => by
        obtain ⟨m', hm, q⟩ := q
        exact ⟨m', hm, down m' σ' B' H' e' W' ((x'.trans e2).trans x) s'' r'' q⟩) (fun v B' H' d W' x => h2 v B' H' d W' ((x'.trans e2).trans x)) (fun σ' B' H' e' W' x => h1 σ' B' H' e' W' ((x'.trans e2).trans x)) fun σ' B' H' e' W' x s'' r'' q => by
        obtain ⟨m', hm, q⟩ := q
        exact ⟨m', hm, down m' σ' B' H' e' W' ((x'.trans e2).trans x) s'' r'' q⟩
def wipeD (e : Env) : List Nat → Env
  | [] => e
  | v :: vs => (wipeD e vs).set v none
theorem wipe_r {σ : L2.St} (r : EnvR K B σ e) : ∀ vs : List Nat, EnvR K B (wipe σ vs) (wipeD e vs)
  | [] => r
  | v :: vs => (wipe_r r vs).wipe1
theorem wipe_get (σ : L2.St) (i : Nat) : ∀ vs : List Nat, (wipe σ vs)[i]? = if i ∈ vs ∧ i < σ.length then some none else σ[i]?
  | [] => by simp [wipe]
  | v :: vs => by
    have ih := wipe_get σ i vs
    have hl := wipe_length σ vs
    unfold wipe
    rw [List.getElem?_set]
    by_cases h : v = i
    · subst h
      by_cases h2 : v < σ.length
      · simp [hl, h2]
      · simp [hl, h2, List.getElem?_eq_none (Nat.le_of_not_lt h2)]
    · rw [if_neg h, ih]
      by_cases h2 : i ∈ vs
      · simp [h2]
      · have : ¬ i = v := fun z => h z.symm
        simp [h2, this]
theorem wipe_wipe (σ : L2.St) (vs : List Nat) : wipe (wipe σ vs) vs = wipe σ vs := by
  refine List.ext_getElem? fun i => ?_
  rw [wipe_get, wipe_get, wipe_length]
  split <;> simp_all
theorem wipe_set {σ : L2.St} {vs : List Nat} {i : Nat} {x : Option V} (h : i ∈ vs) : wipe (σ.set i x) vs = wipe σ vs := by
  refine List.ext_getElem? fun j => ?_
  rw [wipe_get, wipe_get, List.length_set]
  by_cases z : j ∈ vs
  · by_cases l : j < σ.length
    · simp [z, l]
    · simp [z, l, List.getElem?_eq_none (Nat.le_of_not_lt l)]
  · have : ¬ i = j := fun q => z (q ▸ h)
    simp [z, List.getElem?_set_ne this]
def OwnG (g : TG) (vs : List Nat) : Prop := ∀ v σ H (P P' : L2.St → Hp → Prop), (∀ σ' H', wipe σ' vs = wipe σ vs → P σ' H' → P' σ' H') → g v σ H P → g v σ H P'
def OwnGs (g : TGs) (vs : List Nat) : Prop := ∀ v σ H (P P' : L2.St → Hp → Prop), (∀ σ' H', wipe σ' vs = wipe σ vs → P σ' H' → P' σ' H') → g v σ H P → g v σ H P'
theorem own_name {vs : List Nat} (h : i ∈ vs) : OwnG (gName i) vs := fun v σ H P P' m q => m _ _ (wipe_set h) q
theorem own_nil {vs : List Nat} : OwnGs gNil vs := fun v σ H P P' m q => ⟨q.1, m _ _ rfl q.2⟩
theorem own_tup {vs : List Nat} {n : Nat} {u : TGs} (h : OwnGs u vs) : OwnG (gTup K n u) vs := fun v σ H P P' m q => by
  obtain ⟨a, xs, e, h1, h2, q⟩ := q
  exact ⟨a, xs, e, h1, h2, h _ _ _ _ _ m q⟩
theorem own_cons {g : TG} {t : TGs} {vs : List Nat} (h : OwnG g vs) (k : OwnGs t vs) : OwnGs (gCons g t) vs := fun v σ H P P' m q => by
  obtain ⟨x, r, e, q⟩ := q
  exact ⟨x, r, e, h _ _ _ _ _ (fun σ1 H1 w1 q1 => k _ _ _ _ _ (fun σ2 H2 w2 q2 => m σ2 H2 (w2.trans w1) q2) q1) q⟩
theorem we_lcF {wi : TI} {g : TG} {tt : TT} {vs : List Nat} (ow : OwnG g vs) (q : WI K wi e W fun I W1 => I.n ≤ 1000000 ∧ ∃ f : Nat → Option D,
    (∀ p i d L, W1 p = none → i < I.n → I.item i = some d → WG K g d (wipeD e vs) (wset W1 p (.lst L)) fun e2 W2 => WT K tt e2 W2 fun b W3 => if b = true then WE K te e2 W3 (FzQ (SubQ fun y W4 => f i = some y ∧ W4 = wset W1 p (.lst L))) else f i = none ∧ W3 = wset W1 p (.lst L)) ∧
    ∀ p, W1 p = none → Q (.ptr p) (wset W1 p (.lst ((List.range I.n).filterMap f)))) : WE K (tLc wi g tt te vs) e W Q := fun B σ H k s r hk =>
  q B σ H _ s r fun J B1 H1 I W1 e1 s1 ok dp q1 => by
    obtain ⟨hn, f, hs, hq⟩ := q1
    obtain ⟨G, Y, w, hG, hY⟩ := ok
    intro p hp
    have hWp := s1.nnone hp
    have hlen : ∀ i, ((List.range i).filterMap f).length ≤ i := fun i => by
      have h := List.length_filterMap_le f (List.range i)
      rwa [List.length_range] at h
    refine lc_it w (fun i H => ∃ B', Ex B1 B' ∧ Sta K B' (wset W1 p (.lst ((List.range i).filterMap f))) H) ⟨B1, Evl.Ex.refl _, s1.new hp (.lst .nil)⟩ (fun i H _ p' => ?_) ?_ ?_
    · obtain ⟨B', x, s'⟩ := p'
      exact hG B' _ H x s' (I.grow _ _ (Sub.new (Sub.refl _) hWp) dp)
    · rintro i x H H' hi ⟨B', x', s'⟩ y
      obtain ⟨B3, d, e3, s3, hd, r3⟩ := hY i B' _ H x H' hi x' s' (I.grow _ _ (Sub.new (Sub.refl _) hWp) dp) y
      have rw2 := (wipe_r (r.mono e1) vs).mono (x'.trans e3)
      have gg := hs p i d _ hWp hi hd B3 (wipe σ vs) H' x
        (k := fun σ2 H2 => tt σ2 H2 fun b H3 => if b = true then te σ2 H3 fun y H4 => ∃ acc, H4 p = some (.lst acc) ∧ acc.length < sizeLine ∧ ∃ B', Ex B1 B' ∧ Sta K B' (wset W1 p (.lst ((List.range (i + 1)).filterMap f))) (upd H4 p (.lst (acc ++ [y]))) else ∃ B', Ex B1 B' ∧ Sta K B' (wset W1 p (.lst ((List.range (i + 1)).filterMap f))) H3) s3 rw2 r3 ?_
      · refine ow _ _ _ _ _ (fun σ2 H2 w2 q2 => ?_) gg
        rw [wipe_wipe] at w2
        exact ⟨w2, q2⟩
      · intro σ2 B4 H4 e4 W4 x4 s4 r4 q4
        refine q4 B4 σ2 H4 _ s4 r4 fun b B5 H5 W5 x5 s5 q5 => ?_
        cases b with
        | false =>
          obtain ⟨q7, q8⟩ : f i = none ∧ W5 = wset W1 p (.lst ((List.range i).filterMap f)) := by simpa using q5
          subst q8
          refine iteF ⟨B5, ((x'.trans e3).trans x4).trans x5, ?_⟩
          have : [i].filterMap f = [] := by rw [List.filterMap_cons_none q7]; rfl
          rw [List.range_succ, List.filterMap_append, this, List.append_nil]
          exact s5
        | true =>
          have q5 : WE K te e4 W5 _ := q5
          refine iteT (we_subq (we_fz q5) B5 σ2 H5 _ s5 (r4.mono x5) fun v B6 H6 d6 W6 x6 s6 r6 q6 => ?_)
          obtain ⟨q6, rfl⟩ := q6
          obtain ⟨acc, h1, h2⟩ := s6.lst ws_same
          refine ⟨acc, h1, ?_, B6, (((x'.trans e3).trans x4).trans x5).trans x6, ?_⟩
          · rw [h2.len, sizeLine_eq]
            have := hlen i
            omega
          · have s7 := s6.set (c := .lst ((List.range i).filterMap f ++ [d6])) ws_same (.lst (h2.app (.cons r6 .nil)))
            rw [ws_ws] at s7
            have : [i].filterMap f = [d6] := by rw [List.filterMap_cons_some q6]; rfl
            rw [List.range_succ, List.filterMap_append, this]
            exact s7
    · rintro H ⟨B', x', s'⟩
      exact hk _ B' H _ _ (e1.trans x') s' (.raw _) (hq p hWp)
theorem fm_get {α : Type} (M : List α) : (List.range M.length).filterMap (fun i => M[i]?) = M := by
  induction M with
  | nil => rfl
  | cons a M ih =>
    rw [List.length_cons, List.range_succ_eq_map, List.filterMap_cons_some (b := a) (by rfl), List.filterMap_map]
    congr 1
theorem we_lcL {wi : TI} {g : TG} {vs : List Nat} (ow : OwnG g vs) (q : WI K wi e W fun I W1 => I.n ≤ 1000000 ∧ ∃ M : List D, M.length = I.n ∧
    (∀ p i d L, W1 p = none → i < I.n → I.item i = some d → WG K g d (wipeD e vs) (wset W1 p (.lst L)) fun e2 W2 => WE K te e2 W2 (FzQ (SubQ fun y W4 => M[i]? = some y ∧ W4 = wset W1 p (.lst L)))) ∧
    ∀ p, W1 p = none → Q (.ptr p) (wset W1 p (.lst M))) : WE K (tLc wi g tYes te vs) e W Q := by
  refine we_lcF ow fun B σ H k s r hk => q B σ H k s r fun J B' H' I W' x s' ok dp q' => hk J B' H' I W' x s' ok dp ?_
  obtain ⟨hn, M, hM, hs, hq⟩ := q'
  refine ⟨hn, fun i => M[i]?, fun p i d L hp hi hd B σ H v k s r rv hk => ?_, fun p hp => ?_⟩
  · refine hs p i d L hp hi hd B σ H v k s r rv fun σ2 B2 H2 e2 W2 x2 s2 r2 q2 => hk σ2 B2 H2 e2 W2 x2 s2 r2 fun B3 σ3 H3 k3 s3 r3 hk3 => hk3 true B3 H3 W2 (Evl.Ex.refl _) s3 (iteT q2)
  · rw [← hM]
    have : (List.range M.length).filterMap (fun i => M[i]?) = M := fm_get M
    rw [this]
    exact hq p hp
mutual
def pyD : D → Option PyData
  | .raw .non => some .none
  | .raw (.bl b) => some (.bool b)
  | .raw (.int i) => some (.int i)
  | .raw (.str z) => some (.str z)
  | .raw _ => none
  | .lst ds => (pyDs ds).map .list
  | .tup ds => (pyDs ds).map .tuple
  | .scr ns => some (.list (ns.map .int))
  | .obj _ _ _ => none
def pyDs : List D → Option (List PyData)
  | [] => some []
  | d :: r => (pyD d).bind fun p => (pyDs r).map fun q => p :: q
end
theorem pyDs_cons {d : D} {r : List D} {ps : List PyData} (h : pyDs (d :: r) = some ps) : ∃ p q, pyD d = some p ∧ pyDs r = some q ∧ ps = p :: q := by
  rw [pyDs] at h
  cases h1 : pyD d with
  | none => rw [h1] at h; cases h
  | some p =>
    cases h2 : pyDs r with
    | none => rw [h1, h2] at h; cases h
    | some q => rw [h1, h2] at h; cases h; exact ⟨p, q, rfl, rfl, rfl⟩
theorem ints_dp (ns : List Int) : DpAll K H (ns.map V.int) (ns.map PyData.int) := by
  induction ns with
  | nil => exact .nil
  | cons n ns ih => exact .cons (.int n) ih
mutual
theorem rep_dp (e : Ex B H) : ∀ {v : V} {d : D} {p : PyData}, Rep K B v d → pyD d = some p → Dp K H v p
  | _, _, p, .raw v, h => by
    cases v <;> simp [pyD] at h <;> subst h <;> constructor
  | _, _, p, .lst h1 hs, h => by
    simp [pyD] at h
    obtain ⟨ps, h2, rfl⟩ := h
    exact .lst (SqL.of (e _ _ h1)) (reps_dp e hs h2)
  | _, _, p, .tup h1 hs, h => by
    simp [pyD] at h
    obtain ⟨ps, h2, rfl⟩ := h
    exact .tup (ex_st e h1) (reps_dp e hs h2)
  | _, _, p, .obj .., h => by simp [pyD] at h
  | _, _, p, .scr h1, h => by
    simp [pyD] at h
    subst h
    exact .lst (ex_sq e h1) (ints_dp _)
theorem reps_dp (e : Ex B H) : ∀ {vs : List V} {ds : List D} {ps : List PyData}, Reps K B vs ds → pyDs ds = some ps → DpAll K H vs ps
  | _, _, ps, .nil, h => by simp [pyDs] at h; subst h; exact .nil
  | _, _, ps, .cons h1 h2, h => by
    obtain ⟨p, q, h3, h4, e2⟩ := pyDs_cons h
    subst e2
    exact .cons (rep_dp e h1 h3) (reps_dp e h2 h4)
end
inductive AtD (W : Wd) : D → D → Prop
  | id (d : D) : AtD W d d
  | own {a : Addr} {ds : List D} (h : W a = some (.lst ds)) : AtD W (.raw (.ref a)) (.lst ds)
theorem at_dp (s : Sta K B W H) (r : Rep K B v x) (h : AtD W x d) {p : PyData} (hp : pyD d = some p) : Dp K H v p := by
  cases h with
  | id => exact rep_dp s.ex r hp
  | own h =>
    cases r
    obtain ⟨xs, h1, h2⟩ := s.lst h
    simp [pyD] at hp
    obtain ⟨ps, h3, rfl⟩ := hp
    exact .lst (SqL.of h1) (reps_dp s.ex h2 h3)
theorem d_eqD {dx dy : D} {p q : PyData} {b : Bool} (hx : AtD W x dx) (hy : AtD W y dy) (h1 : pyD dx = some p) (h2 : pyD dy = some q) (s1 : SeqAt.shaped p = true) (s2 : SeqAt.shaped q = true) (e : PyData.eqv p q = b) (k : Q (.raw (.bl b)) W) : RD K (rEqD K) x y W Q := fun B H v w kk s r1 r2 hk =>
  w_eqD (at_dp s r1 hx h1) (at_dp s r2 hy h2) s1 s2 e (hk _ B H _ W (Evl.Ex.refl _) s (.raw _) k)
theorem d_neD {dx dy : D} {p q : PyData} {b : Bool} (hx : AtD W x dx) (hy : AtD W y dy) (h1 : pyD dx = some p) (h2 : pyD dy = some q) (s1 : SeqAt.shaped p = true) (s2 : SeqAt.shaped q = true) (e : PyData.eqv p q = b) (k : Q (.raw (.bl (!b))) W) : RD K (rNeD K) x y W Q := fun B H v w kk s r1 r2 hk =>
  w_neD (at_dp s r1 hx h1) (at_dp s r2 hy h2) s1 s2 e (hk _ B H _ W (Evl.Ex.refl _) s (.raw _) k)
theorem wt_yes {QB : Bool → Wd → Prop} (q : QB true W) : WT K tYes e W QB := fun B σ H k s r hk => hk true B H W (Evl.Ex.refl _) s q
theorem ws_lock {a : Addr} {kvs : List (Key × D)} (h : W a = some (.dct kvs)) (q : ∀ o u, WS K ts e (wset W a (.lock o u kvs)) { nx := fun e' W' => W' a = some (.lock o u kvs) ∧ E.nx e' (wset W' a (.dct kvs)), rt := fun d W' => W' a = some (.lock o u kvs) ∧ E.rt d (wset W' a (.dct kvs)), bk := fun e' W' => W' a = some (.lock o u kvs) ∧ E.bk e' (wset W' a (.dct kvs)), ct := fun e' W' => W' a = some (.lock o u kvs) ∧ E.ct e' (wset W' a (.dct kvs)) }) : WS K (tLock ts) e W E := fun Dn B σ H s r h1 h2 h3 h4 => by
  obtain ⟨xs, g1, g2⟩ := s.dct h
  refine ⟨a, .dK xs, g1, trivial, fun od => ?_⟩
  have s2 := s.set (c := .lock od (.dK xs) kvs) h (.lock g2)
  have un : ∀ {B' H' : Hp} {W' : Wd}, Ex B B' → Sta K B' W' H' → W' a = some (.lock od (.dK xs) kvs) → H' a = some (.frz od (.dK xs)) ∧ Sta K B' (wset W' a (.dct kvs)) (upd H' a (.dK xs)) := fun x s' w => by
    obtain ⟨_, o, k1, k2⟩ := s'.own _ _ w
    cases k2 with | lock k2 => exact ⟨k1, s'.set w (.dct k2)⟩
  exact q od (.dK xs) _ B σ _ s2 r (fun σ' B' H' e' W' x s' r' q' => ⟨(un x s' q'.1).1, h1 σ' B' _ e' _ x (un x s' q'.1).2 r' q'.2⟩) (fun v B' H' d W' x s' r' q' => ⟨(un x s' q'.1).1, h2 v B' _ d _ x (un x s' q'.1).2 r' q'.2⟩) (fun σ' B' H' e' W' x s' r' q' => ⟨(un x s' q'.1).1, h3 σ' B' _ e' _ x (un x s' q'.1).2 r' q'.2⟩) fun σ' B' H' e' W' x s' r' q' => ⟨(un x s' q'.1).1, h4 σ' B' _ e' _ x (un x s' q'.1).2 r' q'.2⟩
end
end RT
namespace RT
open PySem L2
section
variable {K : PySem.W.Frag} {e : Env} {W : Wd} {a b : Addr} {c u : Cell} {Q : KD} {x y d : D} {ds es : List D} {tl : TA} {te : TE}
theorem ne_w2 (h' : W b = none) (h : W a = some c) : a ≠ b := ne_w h h'
theorem ne_w2s (h' : W b = none) (h : W a = some c) : b ≠ a := Ne.symm (ne_w h h')
theorem ws_lk (h : b ≠ a) (h2 : W b = some u) : wset W a c b = some u := by rw [ws_ne h]; exact h2
theorem we_lk (h : b ≠ a) (h2 : W b = some u) : wer W a b = some u := by rw [we_ne h]; exact h2
theorem ws_non (h : wset W a c b = none) : W b = none := by
  by_cases z : b = a
  · subst z; rw [ws_same] at h; cases h
  · rwa [ws_ne z] at h
theorem putD_nil {f : Str} {v : D} : putD f v [] = [(f, v)] := rfl
theorem putD_hit {f : Str} {v w : D} {r : List (Str × D)} : putD f v ((f, w) :: r) = (f, v) :: r := by
  show (if f = f then _ else _) = _
  rw [if_pos rfl]
theorem putD_miss {f k : Str} {v w : D} {r r' : List (Str × D)} (h : ¬ k = f) (e : putD f v r = r') : putD f v ((k, w) :: r) = (k, w) :: r' := by
  show (if k = f then _ else (k, w) :: putD f v r) = _
  rw [if_neg h, e]
theorem wg_tupL {n : Nat} {u : TGs} {QE : Env → Wd → Prop} {xs : List D} (q : xs.length = n ∧ WGs K u xs e W QE) : WG K (gTup K n u) (.tup xs) e W QE := wg_tup q.1 q.2
theorem d_v2 {P : D → D → Prop} (q : P x y) : ∃ v w, [x, y] = [v, w] ∧ P v w := ⟨x, y, rfl, q⟩
theorem d_meth {C : Addr} {m : Str} {fs : List (Str × D)} {P : Addr → Prop} (h : W a = some (.ins C fs)) (l : fs.lookup m = none) (q : P a) : ∃ a' fs, D.raw (.ref a) = .ptr a' ∧ W a' = some (.ins C fs) ∧ fs.lookup m = none ∧ P a' := ⟨a, fs, rfl, h, l, q⟩
theorem rc_fz {r : List V → Hp → VK → Prop} {xs : List D} (q : RC K r xs W (FzQ Q)) : RC K r xs W Q := fun B H vs k s r1 hk => q B H vs k s r1 fun v B' H' d W' e1 s1 r1 q1 => fz_sem s1 r1 q1 fun v2 B2 H2 d2 W2 e2 s2 r2 q2 => hk v2 B2 H2 d2 W2 (e1.trans e2) s2 r2 q2
theorem rd_fz {r : R2} (q : RD K r x y W (FzQ Q)) : RD K r x y W Q := fun B H v w k s r1 r2 hk => q B H v w k s r1 r2 fun v B' H' d W' e1 s1 r1 q1 => fz_sem s1 r1 q1 fun v2 B2 H2 d2 W2 e2 s2 r2 q2 => hk v2 B2 H2 d2 W2 (e1.trans e2) s2 r2 q2
theorem rs_fz {r : V → Option Int → Option Int → Hp → VK → Prop} {lo hi : Option Int} (q : RS K r x lo hi W (FzQ Q)) : RS K r x lo hi W Q := fun B H v k s r1 hk => q B H v k s r1 fun v B' H' d W' e1 s1 r1 q1 => fz_sem s1 r1 q1 fun v2 B2 H2 d2 W2 e2 s2 r2 q2 => hk v2 B2 H2 d2 W2 (e1.trans e2) s2 r2 q2
theorem rm_fz {r : V → List V → Hp → VK → Prop} {xs : List D} (q : RM K r x xs W (FzQ Q)) : RM K r x xs W Q := fun B H v vs k s r1 r2 hk => q B H v vs k s r1 r2 fun v B' H' d W' e1 s1 r1 q1 => fz_sem s1 r1 q1 fun v2 B2 H2 d2 W2 e2 s2 r2 q2 => hk v2 B2 H2 d2 W2 (e1.trans e2) s2 r2 q2
theorem we_lstF (q : WA K tl e W fun ds W1 => ds.length ≤ sizeLine ∧ ∀ p, W1 p = none → FzQ Q (.ptr p) (wset W1 p (.lst ds))) : WE K (tLst tl) e W Q := we_fz (we_lst q)
theorem d_catF (h1 : CatD W x ds) (h2 : CatD W y es) (hl : ds.length + es.length ≤ sizeLine) (q : ∀ p, W p = none → FzQ Q (.ptr p) (wset W p (.lst (ds ++ es)))) : RD K rCat x y W Q := rd_fz (d_cat h1 h2 hl q)
theorem d_catQF (h1 : SeqD W x ds) (h2 : SeqD W y es) (hl : ds.length + es.length ≤ sizeLine) (q : ∀ p, W p = none → FzQ Q (.ptr p) (wset W p (.lst (ds ++ es)))) : RD K (rCatQ K) x y W Q := rd_fz (d_catQ h1 h2 hl q)
theorem d_repF {j : Int} (h : CatD W x ds) (h1 : -(2 ^ 63) ≤ j ∧ j < 2 ^ 63) (hl : ds.length * j.toNat ≤ sizeLine) (q : ∀ p, W p = none → FzQ Q (.ptr p) (wset W p (.lst (List.replicate j.toNat ds).flatten))) : RD K rRep x (.raw (.int j)) W Q := rd_fz (d_rep h h1 hl q)
theorem d_listF (h : SeqD W x ds) (q : ∀ p, W p = none → FzQ Q (.ptr p) (wset W p (.lst ds))) : RC K (rListOf K) [x] W Q := rc_fz (d_list h q)
theorem d_listTF (q : ∀ p, W p = none → FzQ Q (.ptr p) (wset W p (.lst ds))) : RC K (rListOf K) [.tup ds] W Q := rc_fz (d_listT q)
theorem d_slLF {lo hi : Option Int} (h : SeqD W x ds) (q : ∀ p, W p = none → FzQ Q (.ptr p) (wset W p (.lst (cutD ds lo hi)))) : RS K (rSlL K) x lo hi W Q := rs_fz (d_slL h q)
theorem d_splitF {a b : Str} (h1 : (b.length == 0) = false) (h2 : a.length + 2 ≤ sizeLine) (q : ∀ p, W p = none → FzQ Q (.ptr p) (wset W p (.lst ((Txt.split a b).map D.str)))) : RM K rSplit (.raw (.str a)) [.raw (.str b)] W Q := rm_fz (d_split h1 h2 q)
theorem we_lcLF {wi : TI} {g : TG} {vs : List Nat} (ow : OwnG g vs) (q : WI K wi e W fun I W1 => I.n ≤ 1000000 ∧ ∃ M : List D, M.length = I.n ∧
    (∀ p i d L, W1 p = none → i < I.n → I.item i = some d → WG K g d (wipeD e vs) (wset W1 p (.lst L)) fun e2 W2 => WE K te e2 W2 (FzQ (SubQ fun y W4 => M[i]? = some y ∧ W4 = wset W1 p (.lst L)))) ∧
    ∀ p, W1 p = none → FzQ Q (.ptr p) (wset W1 p (.lst M))) : WE K (tLc wi g tYes te vs) e W Q := we_fz (we_lcL ow q)
theorem we_lcFF {wi : TI} {g : TG} {tt : TT} {vs : List Nat} (ow : OwnG g vs) (q : WI K wi e W fun I W1 => I.n ≤ 1000000 ∧ ∃ f : Nat → Option D,
    (∀ p i d L, W1 p = none → i < I.n → I.item i = some d → WG K g d (wipeD e vs) (wset W1 p (.lst L)) fun e2 W2 => WT K tt e2 W2 fun b W3 => if b = true then WE K te e2 W3 (FzQ (SubQ fun y W4 => f i = some y ∧ W4 = wset W1 p (.lst L))) else f i = none ∧ W3 = wset W1 p (.lst L)) ∧
    ∀ p, W1 p = none → FzQ Q (.ptr p) (wset W1 p (.lst ((List.range I.n).filterMap f)))) : WE K (tLc wi g tt te vs) e W Q := we_fz (we_lcF ow q)
theorem ret_own {W' : Wd} {p : Addr} {c : Cell} {P : KD} (m : Sub W W') (q : P (.ptr p) (wset W p c)) : FzQ (SubQ P) (.raw (.ref p)) (wset W' p c) := .inl ⟨wset W p c, m.set, q⟩
theorem ret_frz {W' : Wd} {p : Addr} {P : KD} (h : W' p = none) (m : Sub W W') (q : P (.lst ds) W) : FzQ (SubQ P) (.raw (.ref p)) (wset W' p (.lst ds)) := fz_newS m h q
theorem ret_dat {W' : Wd} {P : KD} (m : Sub W W') (q : P d W) : FzQ (SubQ P) d W' := .inl ⟨W, m, q⟩
theorem we_callF {p : PF} (q : WA K tl e W fun ds W1 => p ds W1 (FzQ Q)) : WE K (tCall (lift K p) [] E0 tl) e W Q := we_fz (we_call q)
theorem inV_str (h : Str) (l : List Str) : inV (.str h) (l.map V.str) = dB (h ∈ l) := by
  unfold inV
  rw [List.any_map, dB_eq]
  induction l with
  | nil => rfl
  | cons a l ih =>
    rw [List.any_cons, ih]
    show ((a == h) || _) = _
    by_cases z : a = h
    · subst z; simp
    · have z' : ¬ h = a := fun q => z q.symm
      simp [z, z', beq_eq_false_iff_ne.mpr z]
theorem d_inTf {h : Str} {l : List Str} (q : Q (.raw (.bl (dB (h ∈ l)))) W) : RD K (rIn K false) (.raw (.str h)) (.tup (l.map D.str)) W Q :=
  d_inV (l := l.map V.str) (.inr (by rw [List.map_map]; rfl)) rfl (by rw [List.all_map]; exact List.all_eq_true.mpr fun _ _ => rfl) (by rw [inV_str]; exact q)
theorem d_inTt {h : Str} {l : List Str} (q : Q (.raw (.bl (!dB (h ∈ l)))) W) : RD K (rIn K true) (.raw (.str h)) (.tup (l.map D.str)) W Q :=
  d_inV (l := l.map V.str) (.inr (by rw [List.map_map]; rfl)) rfl (by rw [List.all_map]; exact List.all_eq_true.mpr fun _ _ => rfl) (by rw [inV_str]; exact q)
theorem at0 {α : Type} {x : α} {l : List α} : atI (x :: l) 0 = some x := atI_nat (j := 0) rfl
theorem at1 {α : Type} {x y : α} {l : List α} : atI (x :: y :: l) 1 = some y := atI_nat (j := 1) rfl
theorem at_last {α : Type} {x : α} {l : List α} : atI (l ++ [x]) (-1) = some x := by
  unfold atI ixN
  rw [if_neg (by decide), if_pos (by rw [List.length_append, List.length_singleton]; omega)]
  show (l ++ [x])[((-1 : Int) + ((l ++ [x]).length : Nat)).toNat]? = _
  rw [show ((-1 : Int) + ((l ++ [x]).length : Nat)).toNat = l.length by rw [List.length_append, List.length_singleton]; omega]
  simp
def W0 : Wd := fun _ => none
theorem law_pure {t : TS} {N : List Str} {vs : List V} {H : Hp} {Qv : VK} {Ex : XK} (h : spLaw K vs H Qv Ex) (g : ∀ ns : List Int, ns.length ≤ 63 → WS K t (startD N [.scr ns]) W0 ⟨fun _ _ => False, fun r _ => r = .raw (.bl true), fun _ _ => False, fun _ _ => False⟩) :
    t { nx := fun _ H' => Qv .non H', rt := Qv } (L2.start N vs) H := by
  obtain ⟨a, ns, rfl, hS, hl, k⟩ := h
  refine g ns hl { nx := fun _ H' => Qv .non H', rt := Qv } H (L2.start N [.ref a]) H ⟨Evl.Ex.refl _, fun _ _ q => by cases q⟩ (start_r (.cons (.scr hS) .nil)) (fun _ _ _ _ _ _ _ _ q => q.elim) (fun v B' H' r W' _ _ r' q => ?_) (fun _ _ _ _ _ _ _ _ q => q.elim) (fun _ _ _ _ _ _ _ _ q => q.elim)
  subst q
  cases r'
  exact k H'
end
end RT

set_option Elab.async false
set_option linter.all false
set_option maxRecDepth 100000
set_option maxHeartbeats 1000000
set_option autoImplicit false
namespace RT
open PySem L2
local macro_rules | `(tactic| walk_at "putf") => `(tactic| first | exact putF_nil | exact putF_hit | exact putF_miss (by decide) (by walk_at "putf"))
local macro_rules | `(tactic| walk_at "ne") => `(tactic| first | assumption | exact Ne.symm (by assumption) | ((refine' ne2 ?h1 ?h2); (case h1 => assumption); (case h2 => walk_at "hk")) | ((refine' ne2s ?h1 ?h2); (case h1 => assumption); (case h2 => walk_at "hk")) | exact ne_head (by assumption) | exact ne_of (by assumption) (by assumption) (by intro z; cases z))
local macro_rules | `(tactic| walk_at "hk") => `(tactic| first | assumption | with_reducible exact upd_same | ((with_reducible refine' up_ne ?h1 ?h2); (case h1 => walk_at "ne"); (case h2 => walk_at "hk")) | ((with_reducible refine' ex_at ?h1 ?h2); (case h1 => assumption); (case h2 => walk_at "hk")))
local macro_rules | `(tactic| walk_at "kit") => `(tactic| first | exact kit_int_int | exact kit_int_bool | exact kit_int_str | exact kit_int_list | exact kit_int_tuple | exact kit_int_dict | exact kit_bool_int | exact kit_bool_bool | exact kit_bool_str | exact kit_bool_list | exact kit_bool_tuple | exact kit_bool_dict | exact kit_str_int | exact kit_str_bool | exact kit_str_str | exact kit_str_list | exact kit_str_tuple | exact kit_str_dict | exact kit_NoneType_int | exact kit_NoneType_bool | exact kit_NoneType_str | exact kit_NoneType_list | exact kit_NoneType_tuple | exact kit_NoneType_dict | exact kit_list_int | exact kit_list_bool | exact kit_list_str | exact kit_list_list | exact kit_list_tuple | exact kit_list_dict | exact kit_tuple_int | exact kit_tuple_bool | exact kit_tuple_str | exact kit_tuple_list | exact kit_tuple_tuple | exact kit_tuple_dict | exact kit_dict_int | exact kit_dict_bool | exact kit_dict_str | exact kit_dict_list | exact kit_dict_tuple | exact kit_dict_dict)
local macro_rules | `(tactic| walk_at "sq") => `(tactic| first | assumption | ((with_reducible refine' SqL.of ?h); (case h => walk_at "hk")) | ((with_reducible refine' ex_sq ?h1 ?h2); (case h1 => assumption); (case h2 => walk_at "sq")))
local macro_rules | `(tactic| walk_at "st") => `(tactic| first | assumption | ((with_reducible refine' SqT.of ?h); (case h => walk_at "hk")) | ((with_reducible refine' ex_st ?h1 ?h2); (case h1 => assumption); (case h2 => walk_at "st")))
local macro_rules | `(tactic| walk_at "new") => `(tactic| (intro p hp; generalize hU : upd _ p _ = H'; have e1 := new_ex hp hU; have e2 := new_at hU; clear hU))
local macro_rules | `(tactic| walk_at "set") => `(tactic| ((try simp only [List.set_cons_succ, List.set_cons_zero]); rfl))
local macro_rules | `(tactic| walk_at "small") => `(tactic| first | assumption | (rw [sizeLine_eq]; (try simp only [List.length_cons, List.length_nil, str_len_app, sign_len]); omega) | (with_unfolding_all decide))
local macro_rules | `(tactic| walk_at "sc") => `(tactic| first | assumption | decide | omega | (unfold CMul; omega) | (unfold CDiv; omega) | (unfold CPow; decide) | (unfold CDiv; decide))
local macro_rules | `(tactic| walk_at "step") => `(tactic| first
  | with_reducible refine' w_seq ?_
  | with_reducible refine' w_op ?_
  | ((with_reducible refine' w_var ?h ?_); (case h => rfl))
  | with_reducible refine' w_c ?_
  | with_reducible refine' w_i0 ?_
  | with_reducible refine' w_cons ?_
  | with_reducible refine' w_nil ?_
  | with_reducible refine' w_asg ?_
  | ((with_reducible refine' w_gn ?e ?_); (case e => walk_at "set"))
  | with_reducible refine' w_ifS ?_
  | with_reducible refine' w_test ?_
  | with_reducible refine' w_tB ?_
  | with_reducible refine' w_bl ?_
  | with_reducible refine' w_int ?_
  | with_reducible refine' w_ref ?_
  | with_reducible refine' w_str ?_
  | with_reducible refine' w_eqI ?_
  | with_reducible refine' w_neI ?_
  | with_reducible refine' w_eqS ?_
  | with_reducible refine' w_neS ?_
  | with_reducible refine' w_ret ?_
  | with_reducible refine' w_for ?_
  | with_reducible refine' w_tFld ?_
  | ((with_reducible refine' w_fld ?h ?c ?n ?l ?_); (case h => walk_at "hk"); (case c => assumption); (case n => assumption); (case l => rfl))
  | with_reducible refine' w_sFld ?_
  | ((with_reducible refine' w_rsFld ?h ?c ?n ?l ?e ?_); (case h => walk_at "hk"); (case c => assumption); (case n => assumption); (case e => walk_at "putf"); (case l => (simp only [List.length_cons, List.length_nil]; omega)))
  | with_reducible refine' w_tDGet ?_
  | with_reducible refine' w_tDIn ?_
  | with_reducible refine' w_tDNotIn ?_
  | ((with_reducible refine' w_dinI ?h ?_); (case h => walk_at "hk"))
  | with_reducible refine' w_sDPut ?_
  | with_reducible refine' w_bm ?_
  | with_reducible refine' w_bm0 ?_
  | ((with_reducible refine' w_tyL ?h ?_); (case h => walk_at "sq"))
  | with_reducible refine' w_iRev ?_
  | ((with_reducible refine' w_rev1 ?h ?_); (case h => walk_at "sq"))
  | with_reducible refine' w_iItems ?_
  | with_reducible refine' w_iKeys ?_
  | with_reducible refine' w_iRng3 ?_
  | with_reducible refine' w_iZip ?_
  | with_reducible refine' w_gCons ?_
  | with_reducible refine' w_gNil ?_
  | ((with_reducible refine' w_gTup ?h ?l ?_); (case h => walk_at "st"); (case l => rfl))
  | with_reducible refine' w_m1 ?_
  | with_reducible refine' w_isS ?_
  | with_reducible refine' w_lc ?_
  | with_reducible refine' w_iList ?_
  | with_reducible refine' w_iTup ?_
  | with_reducible refine' w_iStr ?_
  | with_reducible refine' w_iRng1 ?_
  | with_reducible refine' w_iRng2 ?_
  | with_reducible refine' w_v1I ?_
  | with_reducible refine' w_v2I ?_
  | with_reducible refine' w_next ?_
  | with_reducible refine' w_call ?_
  | with_reducible refine' w_cb ?_
  | with_reducible refine' w_and ?_
  | with_reducible refine' w_or ?_
  | with_reducible refine' w_not ?_
  | with_reducible refine' w_andV ?_
  | with_reducible refine' w_orV ?_
  | with_reducible refine' w_notV ?_
  | with_reducible refine' w_ifE ?_
  | with_reducible refine' w_drop ?_
  | with_reducible refine' w_un ?_
  | with_reducible refine' w_u ?_
  | with_reducible refine' w_isNN ?_
  | with_reducible refine' w_isNI ?_
  | with_reducible refine' w_isNS ?_
  | with_reducible refine' w_isNR ?_
  | with_reducible refine' w_notNN ?_
  | with_reducible refine' w_notNI ?_
  | with_reducible refine' w_notNS ?_
  | with_reducible refine' w_notNR ?_
  | with_reducible refine' w_int1 ?_
  | with_reducible refine' w_int1b ?_
  | with_reducible refine' w_tup ?_
  | with_reducible refine' w_lst ?_
  | with_reducible refine' w_dnew ?_
  | with_reducible refine' w_sl ?_
  | with_reducible refine' w_noPart ?_
  | with_reducible refine' w_part ?_
  | with_reducible refine' w_retN ?_
  | with_reducible refine' w_brk ?_
  | with_reducible refine' w_cont ?_
  | with_reducible refine' w_chain ?_
  | with_reducible refine' w_lt ?_
  | with_reducible refine' w_le ?_
  | with_reducible refine' w_gt ?_
  | with_reducible refine' w_ge ?_
  | with_reducible refine' w_ltS ?_
  | with_reducible refine' w_leS ?_
  | with_reducible refine' w_gtS ?_
  | with_reducible refine' w_geS ?_
  | ((with_reducible refine' w_addS ?h ?_); (case h => walk_at "small"))
  | with_reducible refine' w_inS ?_
  | with_reducible refine' w_ninS ?_
  | with_reducible refine' w_par ?_
  | with_reducible refine' w_v2 ?_
  | with_reducible refine' w_max2 ?_
  | with_reducible refine' w_min2 ?_
  | with_reducible refine' w_tru ?_
  | with_reducible refine' w_meth ?_
  | ((with_reducible refine' w_meth1 ?h ?l ?_); (case h => walk_at "hk"); (case l => rfl))
  | with_reducible refine' w_make ?_
  | ((with_reducible refine' w_isiI ?h ?_); (case h => walk_at "kit"))
  | ((with_reducible refine' w_isiB ?h ?_); (case h => walk_at "kit"))
  | ((with_reducible refine' w_isiN ?h ?_); (case h => walk_at "kit"))
  | ((with_reducible refine' w_isiS ?h ?_); (case h => walk_at "kit"))
  | ((with_reducible refine' w_isiSL ?h ?e ?_); (case h => walk_at "sq"); (case e => walk_at "kit"))
  | ((with_reducible refine' w_isiST ?h ?e ?_); (case h => walk_at "st"); (case e => walk_at "kit"))
  | ((with_reducible refine' w_i ?h ?_); (case h => walk_at "sc"))
  | with_reducible refine' w_ttL ?_
  | with_reducible refine' w_ffL ?_
  | ((with_reducible refine' w_tt ?h ?_); (case h => first | exact dB_t (by decide) | exact nB_t (by decide) | decide))
  | ((with_reducible refine' w_ff ?h ?_); (case h => first | exact dB_f (by decide) | exact nB_f (by decide) | decide))
  | ((with_reducible refine' w_lenS ?h ?_); (case h => walk_at "sq"))
  | ((with_reducible refine' w_lenT ?h ?_); (case h => walk_at "st"))
  | ((with_reducible refine' w_slL ?h ?_); (case h => walk_at "sq"))
  | ((with_reducible refine' w_aug ?h ?_); (case h => rfl))
  | with_reducible refine' w_ip ?_
  | ((with_reducible refine' w_cat ?h1 ?h2 ?h3 ?_); (case h1 => walk_at "hk"); (case h2 => walk_at "hk"); (case h3 => walk_at "small"))
  | ((with_reducible refine' w_ixL ?h1 ?h2 ?_); (case h1 => walk_at "sq"); (case h2 => rfl))
  | ((with_reducible refine' w_ixT ?h1 ?h2 ?_); (case h1 => walk_at "st"); (case h2 => rfl))
  | ((with_reducible refine' w_lenStr ?h ?_); (case h => walk_at "small"))
  | ((with_reducible refine' w_slS ?h ?_); (case h => walk_at "small"))
  | ((with_reducible refine' w_sz ?h ?_); (case h => walk_at "small")))
local macro_rules | `(tactic| walk_at "go") => `(tactic| (repeat (first | walk_at "step" | walk_at "callx")))
local macro_rules | `(tactic| walk_at "goN") => `(tactic| (repeat (first | walk_at "step" | walk_at "callx" | ((with_reducible show ∀ p, _ = none → _); walk_at "new"))))
local macro_rules | `(tactic| walk_at "len") => `(tactic| first
  | (obtain ⟨rfl, _⟩ := h; rfl) | (obtain ⟨_, rfl, _⟩ := h; rfl) | (obtain ⟨_, _, rfl, _⟩ := h; rfl) | (obtain ⟨_, _, _, rfl, _⟩ := h; rfl) | (obtain ⟨_, _, _, _, rfl, _⟩ := h; rfl)
  | (obtain ⟨_, _, _, _, _, rfl, _⟩ := h; rfl) | (obtain ⟨_, _, _, _, _, _, rfl, _⟩ := h; rfl) | (obtain ⟨_, _, _, _, _, _, _, rfl, _⟩ := h; rfl) | (obtain ⟨_, _, _, _, _, _, _, _, rfl, _⟩ := h; rfl)
  | (obtain ⟨_, _, _, _, _, _, _, _, _, rfl, _⟩ := h; rfl) | (obtain ⟨_, _, _, _, _, _, _, _, _, _, rfl, _⟩ := h; rfl))
local macro_rules | `(tactic| walk_at "dec") => `(tactic| (first | with_reducible apply w_dec | with_reducible apply w_ndec | with_reducible apply w_bool) <;> intro hc)
local macro_rules | `(tactic| walk_at "msm") => `(tactic| first | with_reducible assumption | (rw [sizeLine_eq]; (try simp only [List.length_cons, List.length_nil, List.length_append, List.length_map, List.length_set, str_len_app, sign_len]); omega))
local macro_rules | `(tactic| walk_at "wne") => `(tactic| first | with_reducible assumption | exact Ne.symm (by with_reducible assumption) | ((refine' ne_w2 ?h2 ?h1); (case h2 => with_reducible assumption); (case h1 => walk_at "wk")) | ((refine' ne_w2s ?h2 ?h1); (case h2 => with_reducible assumption); (case h1 => walk_at "wk")))
local macro_rules | `(tactic| walk_at "wk") => `(tactic| first | with_reducible assumption | with_reducible exact ws_same | ((with_reducible refine' ws_lk ?h1 ?h2); (case h1 => walk_at "wne"); (case h2 => walk_at "wk")) | ((with_reducible refine' we_lk ?h1 ?h2); (case h1 => walk_at "wne"); (case h2 => walk_at "wk")))
local macro_rules | `(tactic| walk_at "sd") => `(tactic| first | with_reducible assumption | with_reducible exact SeqD.lst _ | with_reducible exact SeqD.scr _ | ((with_reducible refine' SeqD.own ?h); (case h => walk_at "wk")) | ((with_reducible refine' SeqD.er ?m ?h); (case h => with_reducible assumption); (case m => walk_at "sub")))
local macro_rules | `(tactic| walk_at "cd") => `(tactic| first | with_reducible assumption | with_reducible exact CatD.lst _ | ((with_reducible refine' CatD.own ?h); (case h => walk_at "wk")))
local macro_rules | `(tactic| walk_at "dd") => `(tactic| first | with_reducible assumption | ((with_reducible refine' DctD.own ?h); (case h => walk_at "wk")) | ((with_reducible refine' DctD.lock ?h); (case h => walk_at "wk")))
local macro_rules | `(tactic| walk_at "le") => `(tactic| repeat (first | exact EnvLe.nil | exact EnvLe.refl _ | with_reducible refine' EnvLe.cons (.inl rfl) ?_ | with_reducible refine' EnvLe.cons (.inr rfl) ?_))
local macro_rules | `(tactic| walk_at "sub") => `(tactic| first | with_reducible assumption | exact Sub.refl _ | ((with_reducible refine' Sub.set ?h1); (case h1 => walk_at "sub")) | ((with_reducible refine' Sub.new ?h1 ?h2); (case h2 => walk_at "wn"); (case h1 => walk_at "sub")))
local macro_rules | `(tactic| walk_at "wn") => `(tactic| first | with_reducible assumption | ((with_reducible refine' ws_non ?h); (case h => with_reducible assumption)) | ((with_reducible refine' ws_non (ws_non ?h)); (case h => with_reducible assumption)) | ((with_reducible refine' ws_non (ws_non (ws_non ?h))); (case h => with_reducible assumption)))
local macro_rules | `(tactic| walk_at "own") => `(tactic| first | ((with_reducible refine' own_name ?h); (case h => decide)) | ((with_reducible refine' own_tup ?h); (case h => walk_at "own")) | ((with_reducible refine' own_cons ?h1 ?h2); (case h1 => walk_at "own"); (case h2 => walk_at "own")) | with_reducible exact own_nil)
local macro_rules | `(tactic| walk_at "mputf") => `(tactic| first | exact putD_nil | exact putD_hit | exact putD_miss (by decide) (by walk_at "mputf"))
local macro_rules | `(tactic| walk_at "mst") => `(tactic| first
  | with_reducible refine' ws_seq ?_
  | with_reducible refine' we_op ?_
  | ((with_reducible refine' we_var ?h ?_); (case h => rfl))
  | with_reducible refine' we_c ?_
  | with_reducible refine' d_i0 ?_
  | with_reducible refine' wa_cons ?_
  | with_reducible refine' wa_nil ?_
  | with_reducible refine' ws_asg ?_
  | ((with_reducible refine' wg_name ?e ?_); (case e => walk_at "set"))
  | with_reducible refine' ws_if ?_
  | with_reducible refine' we_test ?_
  | with_reducible refine' we_tB ?_
  | with_reducible refine' we_bl ?_
  | with_reducible refine' d_eqI ?_
  | with_reducible refine' d_neI ?_
  | with_reducible refine' d_eqS ?_
  | with_reducible refine' d_neS ?_
  | with_reducible refine' ws_ret ?_
  | with_reducible refine' ws_for ?_
  | with_reducible refine' we_fld ?_
  | ((with_reducible refine' d_fldW ?h ?c ?n ?l ?_); (case h => walk_at "wk"); (case c => assumption); (case n => assumption); (case l => rfl))
  | ((with_reducible refine' d_fldO ?c ?n ?l ?_); (case c => assumption); (case n => assumption); (case l => rfl))
  | with_reducible refine' ws_fld ?_
  | ((with_reducible refine' d_sfld ?h ?c ?n ?l ?he ?_); (case h => walk_at "wk"); (case c => assumption); (case n => assumption); (case he => walk_at "mputf"); (case l => (simp only [List.length_cons, List.length_nil]; omega)))
  | with_reducible refine' we_dget ?_
  | with_reducible refine' we_din ?_
  | with_reducible refine' we_dnotin ?_
  | ((with_reducible refine' d_dinI ?h ?_); (case h => walk_at "dd"))
  | ((with_reducible refine' d_dinS ?h ?_); (case h => walk_at "dd"))
  | with_reducible refine' ws_dput ?_
  | with_reducible refine' we_dnew ?_
  | with_reducible refine' we_bm ?_
  | with_reducible refine' we_bm0 ?_
  | ((with_reducible refine' d_seq ?h ?_); (case h => walk_at "sd"))
  | with_reducible refine' wi_list ?_
  | ((with_reducible refine' d_sq ?h ?_); (case h => walk_at "sd"))
  | with_reducible refine' wi_tup ?_
  | with_reducible refine' d_tp ?_
  | with_reducible refine' wi_str ?_
  | with_reducible refine' d_st ?_
  | with_reducible refine' wi_rng1 ?_
  | ((with_reducible refine' d_r1 ?h ?_); (case h => omega))
  | with_reducible refine' wi_rng2 ?_
  | ((with_reducible refine' d_r2 ?h ?_); (case h => omega))
  | with_reducible refine' wi_rng3 ?_
  | with_reducible refine' wi_enum ?_
  | with_reducible refine' wi_rev ?_
  | ((with_reducible refine' d_one ?h ?_); (case h => walk_at "sd"))
  | with_reducible refine' wi_zip ?_
  | ((with_reducible refine' d_two ?h ?h2 ?_); (case h => walk_at "sd"); (case h2 => walk_at "sd"))
  | with_reducible refine' wg_tupL ?_
  | with_reducible refine' wgs_cons ?_
  | with_reducible refine' wgs_nil ?_
  | with_reducible refine' we_m1 ?_
  | with_reducible refine' d_isS ?_
  | with_reducible refine' ws_next ?_
  | with_reducible refine' we_cb ?_
  | with_reducible refine' we_and ?_
  | with_reducible refine' we_or ?_
  | with_reducible refine' we_not ?_
  | with_reducible refine' we_andV ?_
  | with_reducible refine' we_orV ?_
  | with_reducible refine' we_notV ?_
  | with_reducible refine' we_if ?_
  | with_reducible refine' ws_drop ?_
  | with_reducible refine' we_un ?_
  | with_reducible refine' d_u ?_
  | with_reducible refine' d_isNN ?_
  | with_reducible refine' d_isNI ?_
  | with_reducible refine' d_isNS ?_
  | with_reducible refine' d_isNR ?_
  | with_reducible refine' d_notNN ?_
  | with_reducible refine' d_notNI ?_
  | with_reducible refine' d_notNS ?_
  | with_reducible refine' d_notNR ?_
  | with_reducible refine' d_int1 ?_
  | with_reducible refine' d_int1b ?_
  | with_reducible refine' we_tup ?_
  | with_reducible refine' we_lstF ?_
  | with_reducible refine' we_sl ?_
  | with_reducible refine' wo_no ?_
  | with_reducible refine' wo_part ?_
  | with_reducible refine' wo_i ?_
  | with_reducible refine' ws_retN ?_
  | with_reducible refine' ws_brk ?_
  | with_reducible refine' ws_cont ?_
  | with_reducible refine' we_chain ?_
  | with_reducible refine' d_lt ?_
  | with_reducible refine' d_le ?_
  | with_reducible refine' d_gt ?_
  | with_reducible refine' d_ge ?_
  | with_reducible refine' d_ltS ?_
  | with_reducible refine' d_leS ?_
  | with_reducible refine' d_gtS ?_
  | with_reducible refine' d_geS ?_
  | ((with_reducible refine' d_addS ?h ?_); (case h => walk_at "msm"))
  | with_reducible refine' d_inS ?_
  | with_reducible refine' d_ninS ?_
  | with_reducible refine' ws_par ?_
  | with_reducible refine' d_v2 ?_
  | with_reducible refine' d_max2 ?_
  | with_reducible refine' d_min2 ?_
  | with_reducible refine' we_meth ?_
  | ((with_reducible refine' d_meth ?h ?l ?_); (case h => walk_at "wk"); (case l => rfl))
  | ((with_reducible refine' d_isiI ?h ?_); (case h => walk_at "kit"))
  | ((with_reducible refine' d_isiB ?h ?_); (case h => walk_at "kit"))
  | ((with_reducible refine' d_isiN ?h ?_); (case h => walk_at "kit"))
  | ((with_reducible refine' d_isiS ?h ?_); (case h => walk_at "kit"))
  | ((with_reducible refine' d_isiT ?h ?_); (case h => walk_at "kit"))
  | ((with_reducible refine' d_isiL ?h ?hk ?_); (case h => walk_at "sd"); (case hk => walk_at "kit"))
  | ((with_reducible refine' d_i ?h ?_); (case h => walk_at "sc"))
  | with_reducible refine' w_ttL ?_
  | with_reducible refine' w_ffL ?_
  | ((with_reducible refine' w_tt ?h ?_); (case h => first | exact dB_t (by decide) | exact nB_t (by decide) | decide))
  | ((with_reducible refine' w_ff ?h ?_); (case h => first | exact dB_f (by decide) | exact nB_f (by decide) | decide))
  | with_reducible refine' d_lenT ?_
  | ((with_reducible refine' d_lenL ?h ?_); (case h => walk_at "sd"))
  | ((with_reducible refine' d_lenD ?h ?_); (case h => walk_at "wk"))
  | ((with_reducible refine' d_slLF ?h ?_); (case h => walk_at "sd"))
  | ((with_reducible refine' ws_aug ?h ?_); (case h => rfl))
  | with_reducible refine' d_ip ?_
  | ((with_reducible refine' d_ixL ?h1 ?h2 ?_); (case h1 => walk_at "sd"); (case h2 => rfl))
  | ((with_reducible refine' d_ixT ?h2 ?_); (case h2 => rfl))
  | ((with_reducible refine' d_ixAL ?h1 ?h2 ?_); (case h1 => walk_at "sd"); (case h2 => rfl))
  | ((with_reducible refine' d_ixAT ?h2 ?_); (case h2 => rfl))
  | ((with_reducible refine' d_lenStr ?h ?_); (case h => walk_at "msm"))
  | ((with_reducible refine' d_slS ?h ?_); (case h => walk_at "msm"))
  | ((with_reducible refine' d_sz ?h ?_); (case h => walk_at "msm"))
  | ((with_reducible refine' d_catF ?h1 ?h2 ?h3 ?_); (case h1 => walk_at "cd"); (case h2 => walk_at "cd"); (case h3 => walk_at "msm"))
  | ((with_reducible refine' d_catQF ?h1 ?h2 ?h3 ?_); (case h1 => walk_at "sd"); (case h2 => walk_at "sd"); (case h3 => walk_at "msm"))
  | ((with_reducible refine' d_app ?h ?hl ?_); (case h => walk_at "wk"); (case hl => walk_at "msm"))
  | ((with_reducible refine' d_ext ?h ?h2 ?hl ?_); (case h => walk_at "wk"); (case h2 => walk_at "cd"); (case hl => walk_at "msm"))
  | ((with_reducible refine' d_clr ?h ?_); (case h => walk_at "wk"))
  | ((with_reducible refine' d_rev ?h ?_); (case h => walk_at "wk"))
  | ((with_reducible refine' d_listF ?h ?_); (case h => walk_at "sd"))
  | with_reducible refine' d_listTF ?_
  | ((with_reducible refine' we_lcLF ?ow ?_); (case ow => walk_at "own"))
  | with_reducible refine' wt_yes ?_
  | with_reducible rw [ws_ws])
local macro_rules | `(tactic| walk_at "mgo") => `(tactic| (repeat (first | walk_at "mst" | walk_at "callm" | with_reducible refine' we_call ?_)))
local macro_rules | `(tactic| walk_at "mgoN") => `(tactic| (repeat (first | walk_at "mst" | walk_at "callm" | with_reducible refine' we_call ?_ | ((with_reducible show ∀ p, _ = none → _); intro p hp; refine fz_id ?_))))
local macro_rules | `(tactic| walk_at "keep") => `(tactic| (intro p hp; refine fz_id ?_; walk_at "mgo"))
local macro_rules | `(tactic| walk_at "dat") => `(tactic| (intro p hp; refine fz_new hp ?_; clear hp; try clear p; walk_at "mgo"))
local macro_rules | `(tactic| walk_at "mkp") => `(tactic| first | with_reducible refine' mk_Let ?_ | with_reducible refine' mk_Reckon ?_ | with_reducible refine' mk_Take ?_ | with_reducible refine' mk_Put ?_ | with_reducible refine' mk_If ?_ | with_reducible refine' mk_Either ?_ | with_reducible refine' mk_Try ?_ | with_reducible refine' mk_Throw ?_ | with_reducible refine' mk_Wait ?_ | with_reducible refine' ex_si ?_ | with_reducible refine' ex_ss ?_ | with_reducible refine' ex_ssss ?_)
def tMakeO (C : Addr) : TE := fun _ H Q => ∀ x dx, H x = none → H dx = none → dx ≠ x → Q (.ref x) (upd (upd H dx (.own x)) x (.ins C dx []))
structure MkO (K : PySem.W.Frag) (C : Addr) : Prop where
  makes : PySem.W.makesIn K C = true
  init : PySem.W.findIn K (.ref C) "__init__" = some (some (.builtin "object.__init__"))
  kp : PySem.W.keepIn K (.ref C) = true
section
open PySem.W PyProof.Rows PySem.Spec
variable {X : Cx} {C : Addr} {x : Str} {p pos : Pos}
theorem pe_makeO (M : MkO X.K C) (hg : Gl X x) (hm : X.mg x = some (.ref C)) (hdb : (x == ("__debug__" : Str)) = false := by decide) : PE X (.Call (.Name x p) [] [] pos) (tMakeO C) := by
  refine ⟨fun pins s σ H Q I h => ?_⟩
  refine wpAny_Call_Name_kw (ld_glob I hg hm ?_ hdb)
  refine PySem.W.callWith_K0 I.kIn M.kp ?_
  have I2 := Inv.made (C := C) I
  have z : EP X pins σ Q (.ref (s.heap.objs.size + 1)) { s with heap := (s.heap.push PySem.W.emptyDict).push (PySem.W.instObj C s.heap.objs.size) } :=
    ⟨V.ref (s.heap.objs.size + 1), _, I2, rfl, h _ _ (I.hok.fresh (Nat.le_succ _)) (I.hok.fresh (Nat.le_refl _)) (Nat.ne_of_lt (Nat.lt_succ_self _))⟩
  have X0 := I.kIn
  have e2 : ((s.heap.push PySem.W.emptyDict).push (PySem.W.instObj C s.heap.objs.size)).get? (s.heap.objs.size + 1) = some (PySem.W.instObj C s.heap.objs.size) := by
    have := Heap.get?_push_size (s.heap.push PySem.W.emptyDict) (o := PySem.W.instObj C s.heap.objs.size) rfl
    rwa [Heap.size_push] at this
  have Y := makes_of (M := model X.prog X.w) X0 M.makes
  have t1 : Looks (model X.prog X.w) ((s.heap.push emptyDict).push (instObj C s.heap.objs.size)) (typeOf (.ref (s.heap.objs.size + 1))) (.ref C) := (Looks.ld e2).andThen .now
  have t2 : Looks (model X.prog X.w) ((s.heap.push emptyDict).push (instObj C s.heap.objs.size)) (isInstance (.ref (s.heap.objs.size + 1)) (.type "object")) true := t1.andThen (Y.top.keeps fun b o e => Heap.get?_push_of_some _ (Heap.get?_push_of_some _ e))
  refine wpAny_call (make_map0 X0 M.makes M.init (fun self => Looks.of_pure (oi_bind self)) ?_)
  refine codeAny_call_builtin oi_plain entry_oi (@check_slot (model X.prog X.w) _ _ _ "object.__init__" "object" "__init__" (.ref (s.heap.objs.size + 1)) [] [] _ oi_kind oi_split t2 (oi_args (.ref (s.heap.objs.size + 1))) ?_)
  rw [oi_run]
  exact wpAny_pure (And.intro rfl z)
end
inductive Kd | let_ | rk | take | put | iff | eith | tryy | throw | wait
deriving DecidableEq
def cOf (d : Ad) : Kd → Addr
  | .let_ => d.cLet | .rk => d.cReckon | .take => d.cTake | .put => d.cPut | .iff => d.cIf | .eith => d.cEither | .tryy => d.cTry | .throw => d.cThrow | .wait => d.cWait
def atK : Kd → List Str
  | .let_ => ["slot", "number"] | .rk => ["word", "slot", "one", "other"] | .take => ["slot", "place"] | .put => ["place", "slot"] | .iff => ["slot", "parts", "others"] | .eith => ["parts", "others"] | .tryy => ["parts", "name", "slot", "others"] | .throw => ["name", "slot"] | .wait => []
structure TParts (d : Ad) : Prop where
  cl : ∀ k, Cls d.K (cOf d k)
  cc : ∀ k, PySem.W.findIn d.K (.ref (cOf d k)) "__class__" = some (some (.builtin "object.__class__"))
  mo : ∀ k, PySem.W.mroIn d.K (cOf d k) (.type "object") = some true
  gs : PySem.W.specialIn d.K (.builtin "object.__class__") "__get__" = some (some (.builtin "getset_descriptor.__get__"))
  tk : PySem.W.takesIn d.K (.builtin "object.__class__") = some true
  kit : ∀ k j, j ≠ .wait → PySem.W.kitOne d.K (.ref (cOf d k)) (.ref (cOf d j)) = some (decide (k = j))
  na : ∀ k n, n ∈ atK k → NoAttr d.K (cOf d k) n
section
variable {d : Ad} {H : Hp} {Q : VK} {a dx : Addr} {fs : List (Str × V)}
theorem ty_part (T : TParts d) {k : Kd} (h : H a = some (.ins (cOf d k) dx fs)) : TyX d.K H (.ref a) (.ref (cOf d k)) := .base (.ins h (T.cl k) (T.cc k) T.gs T.tk (T.mo k))
theorem w_isiO (T : TParts d) {k j : Kd} {b : Bool} (hj : j ≠ .wait) (h : H a = some (.ins (cOf d k) dx fs)) (e : decide (k = j) = b) (q : Q (.bl b) H) : rIsi d.K [.ref a, .ref (cOf d j)] H Q :=
  w_isi (.own _) (ty_part T h) (by rw [T.kit k j hj, e]) q
end
inductive Pt
  | let_ (s : Str) (n : Int) | rk (w s o t : Str) | take (s p : Str) | put (p s : Str) | iff (s : Str) (ps os : List Pt) | eith (ps os : List Pt) | tryy (ps : List Pt) (n s : Str) (os : List Pt) | throw (n s : Str) | wait

abbrev nLet : List Str := ["slot", "number"]
abbrev nReckon : List Str := ["word", "slot", "one", "other"]
abbrev nTake : List Str := ["slot", "place"]
abbrev nPut : List Str := ["place", "slot"]
abbrev nIf : List Str := ["slot", "parts", "others"]
abbrev nEither : List Str := ["parts", "others"]
abbrev nTry : List Str := ["parts", "name", "slot", "others"]
abbrev nThrow : List Str := ["name", "slot"]
abbrev nWait : List Str := []
mutual
def pD (d : Ad) : Pt → D
  | .let_ s n => .obj d.cLet nLet [.str s, .int n]
  | .rk w s o t => .obj d.cReckon nReckon [.str w, .str s, .str o, .str t]
  | .take s p => .obj d.cTake nTake [.str s, .str p]
  | .put p s => .obj d.cPut nPut [.str p, .str s]
  | .iff s ps os => .obj d.cIf nIf [.str s, .lst (psD d ps), .lst (psD d os)]
  | .eith ps os => .obj d.cEither nEither [.lst (psD d ps), .lst (psD d os)]
  | .tryy ps n s os => .obj d.cTry nTry [.lst (psD d ps), .str n, .str s, .lst (psD d os)]
  | .throw n s => .obj d.cThrow nThrow [.str n, .str s]
  | .wait => .obj d.cWait nWait []
def psD (d : Ad) : List Pt → List D
  | [] => []
  | p :: r => pD d p :: psD d r
end
theorem psD_map (d : Ad) : ∀ ps : List Pt, psD d ps = ps.map (pD d)
  | [] => by rw [psD]; rfl
  | p :: r => by rw [psD, psD_map d r]; rfl
section
variable {d : Ad} {e : Env} {W : Wd} {Q : KD} {ns : List Str} {ds : List D}
theorem d_isiO (T : TParts d) {k j : Kd} {b : Bool} (hj : j ≠ .wait) (h : decide (k = j) = b) (q : Q (.raw (.bl b)) W) : RC d.K (rIsi d.K) [.obj (cOf d k) ns ds, .raw (.ref (cOf d j))] W Q := fun B H vs kk s r hk => by
  cases r with
  | cons r1 r2 =>
    cases r2 with
    | cons r2 r3 =>
      cases r2; cases r3
      cases r1 with
      | obj g hl hs => exact w_isiO T hj (s.ex _ _ g) h (hk _ B H _ W (Evl.Ex.refl _) s (.raw _) q)
theorem we_makeO {C : Addr} (q : ∀ x, W x = none → Q (.raw (.ref x)) (wset W x (.ins C []))) : WE d.K (tMakeO C) e W Q := fun B σ H k s r hk => fun x dx hx hdx hne => by
  have hdx2 : (upd H dx (.own x)) x = none := by rw [upd_ne (Ne.symm hne)]; exact hx
  have s2 : Sta d.K B W (upd H dx (.own x)) := ⟨s.ex.trans (Evl.Ex.new hdx), fun a c q => by
    obtain ⟨h1, o, h2, h3⟩ := s.own a c q
    exact ⟨h1, o, (Evl.Ex.new hdx) a o h2, h3⟩⟩
  exact hk _ B _ _ _ (Evl.Ex.refl _) (s2.new hdx2 (.ins .nil)) (.raw _) (q x (s.nnone hx))
end
def p_Let_init (d : Ad) : PF := fun ds W Q => ∃ (x : Addr) (s : Str) (n : Int), ds = [.ptr x, .str s, .int n] ∧ W x = some (.ins d.cLet []) ∧ Q .non (wset W x (.ins d.cLet [("slot", .str s), ("number", .int n)]))
def p_Reckon_init (d : Ad) : PF := fun ds W Q => ∃ (x : Addr) (w s o t : Str), ds = [.ptr x, .str w, .str s, .str o, .str t] ∧ W x = some (.ins d.cReckon []) ∧ Q .non (wset W x (.ins d.cReckon [("word", .str w), ("slot", .str s), ("one", .str o), ("other", .str t)]))
def p_Take_init (d : Ad) : PF := fun ds W Q => ∃ (x : Addr) (s t : Str), ds = [.ptr x, .str s, .str t] ∧ W x = some (.ins d.cTake []) ∧ Q .non (wset W x (.ins d.cTake [("slot", .str s), ("place", .str t)]))
def p_Put_init (d : Ad) : PF := fun ds W Q => ∃ (x : Addr) (s t : Str), ds = [.ptr x, .str s, .str t] ∧ W x = some (.ins d.cPut []) ∧ Q .non (wset W x (.ins d.cPut [("place", .str s), ("slot", .str t)]))
def p_Throw_init (d : Ad) : PF := fun ds W Q => ∃ (x : Addr) (s t : Str), ds = [.ptr x, .str s, .str t] ∧ W x = some (.ins d.cThrow []) ∧ Q .non (wset W x (.ins d.cThrow [("name", .str s), ("slot", .str t)]))
def p_If_init (d : Ad) : PF := fun ds W Q => ∃ (x : Addr) (s : Str) (l m : D) (ls ms : List D), ds = [.ptr x, .str s, l, m] ∧ W x = some (.ins d.cIf []) ∧ SeqD (wer W x) l ls ∧ SeqD (wer W x) m ms ∧ Q .non (wset W x (.ins d.cIf [("slot", .str s), ("parts", .lst ls), ("others", .lst ms)]))
def p_Either_init (d : Ad) : PF := fun ds W Q => ∃ (x : Addr) (l m : D) (ls ms : List D), ds = [.ptr x, l, m] ∧ W x = some (.ins d.cEither []) ∧ SeqD (wer W x) l ls ∧ SeqD (wer W x) m ms ∧ Q .non (wset W x (.ins d.cEither [("parts", .lst ls), ("others", .lst ms)]))
def p_Try_init (d : Ad) : PF := fun ds W Q => ∃ (x : Addr) (n s : Str) (l m : D) (ls ms : List D), ds = [.ptr x, l, .str n, .str s, m] ∧ W x = some (.ins d.cTry []) ∧ SeqD (wer W x) l ls ∧ SeqD (wer W x) m ms ∧ Q .non (wset W x (.ins d.cTry [("parts", .lst ls), ("name", .str n), ("slot", .str s), ("others", .lst ms)]))
abbrev sp_Let_init (d : Ad) : Sp := lift d.K (p_Let_init d)
abbrev sp_Reckon_init (d : Ad) : Sp := lift d.K (p_Reckon_init d)
abbrev sp_Take_init (d : Ad) : Sp := lift d.K (p_Take_init d)
abbrev sp_Put_init (d : Ad) : Sp := lift d.K (p_Put_init d)
abbrev sp_Throw_init (d : Ad) : Sp := lift d.K (p_Throw_init d)
abbrev sp_If_init (d : Ad) : Sp := lift d.K (p_If_init d)
abbrev sp_Either_init (d : Ad) : Sp := lift d.K (p_Either_init d)
abbrev sp_Try_init (d : Ad) : Sp := lift d.K (p_Try_init d)
abbrev N_Let_init : List Str := ["self", "slot", "number"]
def t_Let_init (d : Ad) : TS :=
  (tSeq (sFld d.K (tVar 0) (tVar 1) "slot")
  (sFld d.K (tVar 0) (tVar 2) "number"))
abbrev N_Reckon_init : List Str := ["self", "word", "slot", "one", "other"]
def t_Reckon_init (d : Ad) : TS :=
  (tSeq (sFld d.K (tVar 0) (tVar 1) "word")
  (tSeq (sFld d.K (tVar 0) (tVar 2) "slot")
  (tSeq (sFld d.K (tVar 0) (tVar 3) "one")
  (sFld d.K (tVar 0) (tVar 4) "other"))))
abbrev N_Take_init : List Str := ["self", "slot", "place"]
def t_Take_init (d : Ad) : TS :=
  (tSeq (sFld d.K (tVar 0) (tVar 1) "slot")
  (sFld d.K (tVar 0) (tVar 2) "place"))
abbrev N_Put_init : List Str := ["self", "place", "slot"]
def t_Put_init (d : Ad) : TS :=
  (tSeq (sFld d.K (tVar 0) (tVar 1) "place")
  (sFld d.K (tVar 0) (tVar 2) "slot"))
abbrev N_If_init : List Str := ["self", "slot", "parts", "others"]
def t_If_init (d : Ad) : TS :=
  (tSeq (sFld d.K (tVar 0) (tVar 1) "slot")
  (tSeq (sFld d.K (tVar 0) (tCB (rListOf d.K) (tCons (tVar 2) tNil)) "parts")
  (sFld d.K (tVar 0) (tCB (rListOf d.K) (tCons (tVar 3) tNil)) "others")))
abbrev N_Either_init : List Str := ["self", "parts", "others"]
def t_Either_init (d : Ad) : TS :=
  (tSeq (sFld d.K (tVar 0) (tCB (rListOf d.K) (tCons (tVar 1) tNil)) "parts")
  (sFld d.K (tVar 0) (tCB (rListOf d.K) (tCons (tVar 2) tNil)) "others"))
abbrev N_Try_init : List Str := ["self", "parts", "name", "slot", "others"]
def t_Try_init (d : Ad) : TS :=
  (tSeq (sFld d.K (tVar 0) (tCB (rListOf d.K) (tCons (tVar 1) tNil)) "parts")
  (tSeq (sFld d.K (tVar 0) (tVar 2) "name")
  (tSeq (sFld d.K (tVar 0) (tVar 3) "slot")
  (sFld d.K (tVar 0) (tCB (rListOf d.K) (tCons (tVar 4) tNil)) "others"))))
abbrev N_Throw_init : List Str := ["self", "name", "slot"]
def t_Throw_init (d : Ad) : TS :=
  (tSeq (sFld d.K (tVar 0) (tVar 1) "name")
  (sFld d.K (tVar 0) (tVar 2) "slot"))
local macro_rules | `(tactic| walk_at "callm") => `(tactic| fail)
section
variable {d : Ad} {vs : List V} {H : Hp} {Q : VK} {E : XK} {W : Wd} {x : Addr} {c c' : Cell} {l : D} {ls : List D}
theorem sd_wx (h : SeqD (wer W x) l ls) : SeqD (wset W x c) l ls := h.er fun a u q => by
  by_cases z : a = x
  · subst z; rw [we_same] at q; cases q
  · rw [we_ne z] at q; rw [ws_ne z]; exact q
theorem sd_w2 (h : SeqD (wer W x) l ls) : SeqD (wer (wset W x c) x) l ls := h.er fun a u q => by
  by_cases z : a = x
  · subst z; rw [we_same] at q; cases q
  · rw [we_ne z] at q; rw [we_ne z, ws_ne z]; exact q
theorem pure_Let_init (T : TParts d) (h : sp_Let_init d vs H Q E) : t_Let_init d { nx := fun _ H' => Q .non H', rt := Q } (start N_Let_init vs) H := by
  refine lift_pure h fun ds W Q hp => ?_
  obtain ⟨x, s, n, rfl, hx, k⟩ := hp
  have c : Cls d.K d.cLet := T.cl .let_
  have n0 : NoAttr d.K d.cLet "slot" := T.na .let_ _ (by simp [atK])
  have n1 : NoAttr d.K d.cLet "number" := T.na .let_ _ (by simp [atK])
  show WS d.K (t_Let_init d) [some (.raw (.ref x)), some (.raw (.str s)), some (.raw (.int n))] W _
  unfold t_Let_init
  walk_at "mgo"
  exact k
theorem pure_Reckon_init (T : TParts d) (h : sp_Reckon_init d vs H Q E) : t_Reckon_init d { nx := fun _ H' => Q .non H', rt := Q } (start N_Reckon_init vs) H := by
  refine lift_pure h fun ds W Q hp => ?_
  obtain ⟨x, w, s, o, t, rfl, hx, k⟩ := hp
  have c : Cls d.K d.cReckon := T.cl .rk
  have n0 : NoAttr d.K d.cReckon "word" := T.na .rk _ (by simp [atK])
  have n1 : NoAttr d.K d.cReckon "slot" := T.na .rk _ (by simp [atK])
  have n2 : NoAttr d.K d.cReckon "one" := T.na .rk _ (by simp [atK])
  have n3 : NoAttr d.K d.cReckon "other" := T.na .rk _ (by simp [atK])
  show WS d.K (t_Reckon_init d) [some (.raw (.ref x)), some (.raw (.str w)), some (.raw (.str s)), some (.raw (.str o)), some (.raw (.str t))] W _
  unfold t_Reckon_init
  walk_at "mgo"
  exact k
theorem pure_Take_init (T : TParts d) (h : sp_Take_init d vs H Q E) : t_Take_init d { nx := fun _ H' => Q .non H', rt := Q } (start N_Take_init vs) H := by
  refine lift_pure h fun ds W Q hp => ?_
  obtain ⟨x, s, t, rfl, hx, k⟩ := hp
  have c : Cls d.K d.cTake := T.cl .take
  have n0 : NoAttr d.K d.cTake "slot" := T.na .take _ (by simp [atK])
  have n1 : NoAttr d.K d.cTake "place" := T.na .take _ (by simp [atK])
  show WS d.K (t_Take_init d) [some (.raw (.ref x)), some (.raw (.str s)), some (.raw (.str t))] W _
  unfold t_Take_init
  walk_at "mgo"
  exact k
theorem pure_Put_init (T : TParts d) (h : sp_Put_init d vs H Q E) : t_Put_init d { nx := fun _ H' => Q .non H', rt := Q } (start N_Put_init vs) H := by
  refine lift_pure h fun ds W Q hp => ?_
  obtain ⟨x, s, t, rfl, hx, k⟩ := hp
  have c : Cls d.K d.cPut := T.cl .put
  have n0 : NoAttr d.K d.cPut "place" := T.na .put _ (by simp [atK])
  have n1 : NoAttr d.K d.cPut "slot" := T.na .put _ (by simp [atK])
  show WS d.K (t_Put_init d) [some (.raw (.ref x)), some (.raw (.str s)), some (.raw (.str t))] W _
  unfold t_Put_init
  walk_at "mgo"
  exact k
theorem pure_Throw_init (T : TParts d) (h : sp_Throw_init d vs H Q E) : t_Throw_init d { nx := fun _ H' => Q .non H', rt := Q } (start N_Throw_init vs) H := by
  refine lift_pure h fun ds W Q hp => ?_
  obtain ⟨x, s, t, rfl, hx, k⟩ := hp
  have c : Cls d.K d.cThrow := T.cl .throw
  have n0 : NoAttr d.K d.cThrow "name" := T.na .throw _ (by simp [atK])
  have n1 : NoAttr d.K d.cThrow "slot" := T.na .throw _ (by simp [atK])
  show WS d.K (t_Throw_init d) [some (.raw (.ref x)), some (.raw (.str s)), some (.raw (.str t))] W _
  unfold t_Throw_init
  walk_at "mgo"
  exact k
theorem pure_If_init (T : TParts d) (h : sp_If_init d vs H Q E) : t_If_init d { nx := fun _ H' => Q .non H', rt := Q } (start N_If_init vs) H := by
  refine lift_pure h fun ds W Q hp => ?_
  obtain ⟨x, s, l, m, ls, ms, rfl, hx, hl, hm, k⟩ := hp
  have c : Cls d.K d.cIf := T.cl .iff
  have n0 : NoAttr d.K d.cIf "slot" := T.na .iff _ (by simp [atK])
  have n1 : NoAttr d.K d.cIf "parts" := T.na .iff _ (by simp [atK])
  have n2 : NoAttr d.K d.cIf "others" := T.na .iff _ (by simp [atK])
  show WS d.K (t_If_init d) [some (.raw (.ref x)), some (.raw (.str s)), some l, some m] W _
  unfold t_If_init
  walk_at "mgo"
  refine d_listF (sd_wx hl) ?_
  walk_at "dat"
  refine d_listF (sd_wx hm) ?_
  walk_at "dat"
  exact k
theorem pure_Either_init (T : TParts d) (h : sp_Either_init d vs H Q E) : t_Either_init d { nx := fun _ H' => Q .non H', rt := Q } (start N_Either_init vs) H := by
  refine lift_pure h fun ds W Q hp => ?_
  obtain ⟨x, l, m, ls, ms, rfl, hx, hl, hm, k⟩ := hp
  have c : Cls d.K d.cEither := T.cl .eith
  have n1 : NoAttr d.K d.cEither "parts" := T.na .eith _ (by simp [atK])
  have n2 : NoAttr d.K d.cEither "others" := T.na .eith _ (by simp [atK])
  show WS d.K (t_Either_init d) [some (.raw (.ref x)), some l, some m] W _
  unfold t_Either_init
  walk_at "mgo"
  refine d_listF (hl.er Sub.wer) ?_
  walk_at "dat"
  refine d_listF (sd_wx hm) ?_
  walk_at "dat"
  exact k
theorem pure_Try_init (T : TParts d) (h : sp_Try_init d vs H Q E) : t_Try_init d { nx := fun _ H' => Q .non H', rt := Q } (start N_Try_init vs) H := by
  refine lift_pure h fun ds W Q hp => ?_
  obtain ⟨x, n, s, l, m, ls, ms, rfl, hx, hl, hm, k⟩ := hp
  have c : Cls d.K d.cTry := T.cl .tryy
  have n0 : NoAttr d.K d.cTry "slot" := T.na .tryy _ (by simp [atK])
  have n1 : NoAttr d.K d.cTry "parts" := T.na .tryy _ (by simp [atK])
  have n2 : NoAttr d.K d.cTry "others" := T.na .tryy _ (by simp [atK])
  have n3 : NoAttr d.K d.cTry "name" := T.na .tryy _ (by simp [atK])
  show WS d.K (t_Try_init d) [some (.raw (.ref x)), some l, some (.raw (.str n)), some (.raw (.str s)), some m] W _
  unfold t_Try_init
  walk_at "mgo"
  refine d_listF (hl.er Sub.wer) ?_
  walk_at "dat"
  refine d_listF (sd_wx hm) ?_
  walk_at "dat"
  exact k
end
section
variable {d : Ad} {e : Env} {W : Wd} {Q : KD} {tl : TA}
theorem mk_end {C : Addr} {fs : List (Str × D)} {x : Addr} (h : W x = none) (q : Q (.obj C (fs.map (·.1)) (fs.map (·.2))) W) {c : Cell} : D.non = D.non ∧ FzQ Q (.raw (.ref x)) (wset (wset W x c) x (.ins C fs)) := ⟨rfl, by rw [ws_ws]; exact fz_obj h q⟩
theorem sd_new {x : Addr} {l : D} {ls : List D} {c : Cell} (h : SeqD W l ls) (hx : W x = none) : SeqD (wer (wset W x c) x) l ls := by rw [we_ws hx]; exact h
theorem mk_Let (q : WA d.K tl e W fun ds W1 => ∃ s n, ds = [D.raw (.str s), D.raw (.int n)] ∧ Q (pD d (.let_ s n)) W1) : WE d.K (tMake d.cLet (sp_Let_init d) [] E0 tl) e W Q := we_fz (we_make fun B σ H k s r hk => q B σ H k s r fun vs B1 H1 ds W1 x1 s1 r1 q1 => hk vs B1 H1 ds W1 x1 s1 r1 (by
  obtain ⟨s, n, rfl, q1⟩ := q1
  exact fun x hx => ⟨x, s, n, rfl, ws_same, mk_end hx (by rw [pD] at q1; exact q1)⟩))
theorem mk_Reckon (q : WA d.K tl e W fun ds W1 => ∃ w s o t, ds = [D.raw (.str w), D.raw (.str s), D.raw (.str o), D.raw (.str t)] ∧ Q (pD d (.rk w s o t)) W1) : WE d.K (tMake d.cReckon (sp_Reckon_init d) [] E0 tl) e W Q := we_fz (we_make fun B σ H k s r hk => q B σ H k s r fun vs B1 H1 ds W1 x1 s1 r1 q1 => hk vs B1 H1 ds W1 x1 s1 r1 (by
  obtain ⟨w, s, o, t, rfl, q1⟩ := q1
  exact fun x hx => ⟨x, w, s, o, t, rfl, ws_same, mk_end hx (by rw [pD] at q1; exact q1)⟩))
theorem mk_Take (q : WA d.K tl e W fun ds W1 => ∃ s t, ds = [D.raw (.str s), D.raw (.str t)] ∧ Q (pD d (.take s t)) W1) : WE d.K (tMake d.cTake (sp_Take_init d) [] E0 tl) e W Q := we_fz (we_make fun B σ H k s r hk => q B σ H k s r fun vs B1 H1 ds W1 x1 s1 r1 q1 => hk vs B1 H1 ds W1 x1 s1 r1 (by
  obtain ⟨s, t, rfl, q1⟩ := q1
  exact fun x hx => ⟨x, s, t, rfl, ws_same, mk_end hx (by rw [pD] at q1; exact q1)⟩))
theorem mk_Put (q : WA d.K tl e W fun ds W1 => ∃ s t, ds = [D.raw (.str s), D.raw (.str t)] ∧ Q (pD d (.put s t)) W1) : WE d.K (tMake d.cPut (sp_Put_init d) [] E0 tl) e W Q := we_fz (we_make fun B σ H k s r hk => q B σ H k s r fun vs B1 H1 ds W1 x1 s1 r1 q1 => hk vs B1 H1 ds W1 x1 s1 r1 (by
  obtain ⟨s, t, rfl, q1⟩ := q1
  exact fun x hx => ⟨x, s, t, rfl, ws_same, mk_end hx (by rw [pD] at q1; exact q1)⟩))
theorem mk_Throw (q : WA d.K tl e W fun ds W1 => ∃ s t, ds = [D.raw (.str s), D.raw (.str t)] ∧ Q (pD d (.throw s t)) W1) : WE d.K (tMake d.cThrow (sp_Throw_init d) [] E0 tl) e W Q := we_fz (we_make fun B σ H k s r hk => q B σ H k s r fun vs B1 H1 ds W1 x1 s1 r1 q1 => hk vs B1 H1 ds W1 x1 s1 r1 (by
  obtain ⟨s, t, rfl, q1⟩ := q1
  exact fun x hx => ⟨x, s, t, rfl, ws_same, mk_end hx (by rw [pD] at q1; exact q1)⟩))
theorem mk_If (q : WA d.K tl e W fun ds W1 => ∃ s l m ps os, ds = [D.raw (.str s), l, m] ∧ SeqD W1 l (psD d ps) ∧ SeqD W1 m (psD d os) ∧ Q (pD d (.iff s ps os)) W1) : WE d.K (tMake d.cIf (sp_If_init d) [] E0 tl) e W Q := we_fz (we_make fun B σ H k s r hk => q B σ H k s r fun vs B1 H1 ds W1 x1 s1 r1 q1 => hk vs B1 H1 ds W1 x1 s1 r1 (by
  obtain ⟨s, l, m, ps, os, rfl, h1, h2, q1⟩ := q1
  exact fun x hx => ⟨x, s, l, m, _, _, rfl, ws_same, sd_new h1 hx, sd_new h2 hx, mk_end hx (by rw [pD] at q1; exact q1)⟩))
theorem mk_Either (q : WA d.K tl e W fun ds W1 => ∃ l m ps os, ds = [l, m] ∧ SeqD W1 l (psD d ps) ∧ SeqD W1 m (psD d os) ∧ Q (pD d (.eith ps os)) W1) : WE d.K (tMake d.cEither (sp_Either_init d) [] E0 tl) e W Q := we_fz (we_make fun B σ H k s r hk => q B σ H k s r fun vs B1 H1 ds W1 x1 s1 r1 q1 => hk vs B1 H1 ds W1 x1 s1 r1 (by
  obtain ⟨l, m, ps, os, rfl, h1, h2, q1⟩ := q1
  exact fun x hx => ⟨x, l, m, _, _, rfl, ws_same, sd_new h1 hx, sd_new h2 hx, mk_end hx (by rw [pD] at q1; exact q1)⟩))
theorem mk_Try (q : WA d.K tl e W fun ds W1 => ∃ l n s m ps os, ds = [l, D.raw (.str n), D.raw (.str s), m] ∧ SeqD W1 l (psD d ps) ∧ SeqD W1 m (psD d os) ∧ Q (pD d (.tryy ps n s os)) W1) : WE d.K (tMake d.cTry (sp_Try_init d) [] E0 tl) e W Q := we_fz (we_make fun B σ H k s r hk => q B σ H k s r fun vs B1 H1 ds W1 x1 s1 r1 q1 => hk vs B1 H1 ds W1 x1 s1 r1 (by
  obtain ⟨l, n, s, m, ps, os, rfl, h1, h2, q1⟩ := q1
  exact fun x hx => ⟨x, n, s, l, m, _, _, rfl, ws_same, sd_new h1 hx, sd_new h2 hx, mk_end hx (by rw [pD] at q1; exact q1)⟩))
theorem mk_Wait (q : Q (pD d .wait) W) : WE d.K (tMakeO d.cWait) e W Q := we_fz (we_makeO fun x hx => fz_obj hx (by rw [pD] at q; exact q))
theorem ex_si {a : Str} {b : Int} {P : Str → Int → Prop} (q : P a b) : ∃ s n, [D.raw (.str a), D.raw (.int b)] = [D.raw (.str s), D.raw (.int n)] ∧ P s n := ⟨a, b, rfl, q⟩
theorem ex_ss {a b : Str} {P : Str → Str → Prop} (q : P a b) : ∃ s n, [D.raw (.str a), D.raw (.str b)] = [D.raw (.str s), D.raw (.str n)] ∧ P s n := ⟨a, b, rfl, q⟩
theorem ex_ssss {a b c e : Str} {P : Str → Str → Str → Str → Prop} (q : P a b c e) : ∃ s n m t, [D.raw (.str a), D.raw (.str b), D.raw (.str c), D.raw (.str e)] = [D.raw (.str s), D.raw (.str n), D.raw (.str m), D.raw (.str t)] ∧ P s n m t := ⟨a, b, c, e, rfl, q⟩
end
end RT

set_option Elab.async false
set_option linter.all false
set_option maxRecDepth 100000
set_option maxHeartbeats 1000000
set_option autoImplicit false
namespace RT
open PySem L2
local macro_rules | `(tactic| walk_at "putf") => `(tactic| first | exact putF_nil | exact putF_hit | exact putF_miss (by decide) (by walk_at "putf"))
local macro_rules | `(tactic| walk_at "ne") => `(tactic| first | assumption | exact Ne.symm (by assumption) | ((refine' ne2 ?h1 ?h2); (case h1 => assumption); (case h2 => walk_at "hk")) | ((refine' ne2s ?h1 ?h2); (case h1 => assumption); (case h2 => walk_at "hk")) | exact ne_head (by assumption) | exact ne_of (by assumption) (by assumption) (by intro z; cases z))
local macro_rules | `(tactic| walk_at "hk") => `(tactic| first | assumption | with_reducible exact upd_same | ((with_reducible refine' up_ne ?h1 ?h2); (case h1 => walk_at "ne"); (case h2 => walk_at "hk")) | ((with_reducible refine' ex_at ?h1 ?h2); (case h1 => assumption); (case h2 => walk_at "hk")))
local macro_rules | `(tactic| walk_at "kit") => `(tactic| first | exact kit_int_int | exact kit_int_bool | exact kit_int_str | exact kit_int_list | exact kit_int_tuple | exact kit_int_dict | exact kit_bool_int | exact kit_bool_bool | exact kit_bool_str | exact kit_bool_list | exact kit_bool_tuple | exact kit_bool_dict | exact kit_str_int | exact kit_str_bool | exact kit_str_str | exact kit_str_list | exact kit_str_tuple | exact kit_str_dict | exact kit_NoneType_int | exact kit_NoneType_bool | exact kit_NoneType_str | exact kit_NoneType_list | exact kit_NoneType_tuple | exact kit_NoneType_dict | exact kit_list_int | exact kit_list_bool | exact kit_list_str | exact kit_list_list | exact kit_list_tuple | exact kit_list_dict | exact kit_tuple_int | exact kit_tuple_bool | exact kit_tuple_str | exact kit_tuple_list | exact kit_tuple_tuple | exact kit_tuple_dict | exact kit_dict_int | exact kit_dict_bool | exact kit_dict_str | exact kit_dict_list | exact kit_dict_tuple | exact kit_dict_dict)
local macro_rules | `(tactic| walk_at "sq") => `(tactic| first | assumption | ((with_reducible refine' SqL.of ?h); (case h => walk_at "hk")) | ((with_reducible refine' ex_sq ?h1 ?h2); (case h1 => assumption); (case h2 => walk_at "sq")))
local macro_rules | `(tactic| walk_at "st") => `(tactic| first | assumption | ((with_reducible refine' SqT.of ?h); (case h => walk_at "hk")) | ((with_reducible refine' ex_st ?h1 ?h2); (case h1 => assumption); (case h2 => walk_at "st")))
local macro_rules | `(tactic| walk_at "new") => `(tactic| (intro p hp; generalize hU : upd _ p _ = H'; have e1 := new_ex hp hU; have e2 := new_at hU; clear hU))
local macro_rules | `(tactic| walk_at "set") => `(tactic| ((try simp only [List.set_cons_succ, List.set_cons_zero]); rfl))
local macro_rules | `(tactic| walk_at "small") => `(tactic| first | assumption | (rw [sizeLine_eq]; (try simp only [List.length_cons, List.length_nil, str_len_app, sign_len]); omega) | (with_unfolding_all decide))
local macro_rules | `(tactic| walk_at "sc") => `(tactic| first | assumption | decide | omega | (unfold CMul; omega) | (unfold CDiv; omega) | (unfold CPow; decide) | (unfold CDiv; decide))
local macro_rules | `(tactic| walk_at "step") => `(tactic| first
  | with_reducible refine' w_seq ?_
  | with_reducible refine' w_op ?_
  | ((with_reducible refine' w_var ?h ?_); (case h => rfl))
  | with_reducible refine' w_c ?_
  | with_reducible refine' w_i0 ?_
  | with_reducible refine' w_cons ?_
  | with_reducible refine' w_nil ?_
  | with_reducible refine' w_asg ?_
  | ((with_reducible refine' w_gn ?e ?_); (case e => walk_at "set"))
  | with_reducible refine' w_ifS ?_
  | with_reducible refine' w_test ?_
  | with_reducible refine' w_tB ?_
  | with_reducible refine' w_bl ?_
  | with_reducible refine' w_int ?_
  | with_reducible refine' w_ref ?_
  | with_reducible refine' w_str ?_
  | with_reducible refine' w_eqI ?_
  | with_reducible refine' w_neI ?_
  | with_reducible refine' w_eqS ?_
  | with_reducible refine' w_neS ?_
  | with_reducible refine' w_ret ?_
  | with_reducible refine' w_for ?_
  | with_reducible refine' w_tFld ?_
  | ((with_reducible refine' w_fld ?h ?c ?n ?l ?_); (case h => walk_at "hk"); (case c => assumption); (case n => assumption); (case l => rfl))
  | with_reducible refine' w_sFld ?_
  | ((with_reducible refine' w_rsFld ?h ?c ?n ?l ?e ?_); (case h => walk_at "hk"); (case c => assumption); (case n => assumption); (case e => walk_at "putf"); (case l => (simp only [List.length_cons, List.length_nil]; omega)))
  | with_reducible refine' w_tDGet ?_
  | with_reducible refine' w_tDIn ?_
  | with_reducible refine' w_tDNotIn ?_
  | ((with_reducible refine' w_dinI ?h ?_); (case h => walk_at "hk"))
  | with_reducible refine' w_sDPut ?_
  | with_reducible refine' w_bm ?_
  | with_reducible refine' w_bm0 ?_
  | ((with_reducible refine' w_tyL ?h ?_); (case h => walk_at "sq"))
  | with_reducible refine' w_iRev ?_
  | ((with_reducible refine' w_rev1 ?h ?_); (case h => walk_at "sq"))
  | with_reducible refine' w_iItems ?_
  | with_reducible refine' w_iKeys ?_
  | with_reducible refine' w_iRng3 ?_
  | with_reducible refine' w_iZip ?_
  | with_reducible refine' w_gCons ?_
  | with_reducible refine' w_gNil ?_
  | ((with_reducible refine' w_gTup ?h ?l ?_); (case h => walk_at "st"); (case l => rfl))
  | with_reducible refine' w_m1 ?_
  | with_reducible refine' w_isS ?_
  | with_reducible refine' w_lc ?_
  | with_reducible refine' w_iList ?_
  | with_reducible refine' w_iTup ?_
  | with_reducible refine' w_iStr ?_
  | with_reducible refine' w_iRng1 ?_
  | with_reducible refine' w_iRng2 ?_
  | with_reducible refine' w_v1I ?_
  | with_reducible refine' w_v2I ?_
  | with_reducible refine' w_next ?_
  | with_reducible refine' w_call ?_
  | with_reducible refine' w_cb ?_
  | with_reducible refine' w_and ?_
  | with_reducible refine' w_or ?_
  | with_reducible refine' w_not ?_
  | with_reducible refine' w_andV ?_
  | with_reducible refine' w_orV ?_
  | with_reducible refine' w_notV ?_
  | with_reducible refine' w_ifE ?_
  | with_reducible refine' w_drop ?_
  | with_reducible refine' w_un ?_
  | with_reducible refine' w_u ?_
  | with_reducible refine' w_isNN ?_
  | with_reducible refine' w_isNI ?_
  | with_reducible refine' w_isNS ?_
  | with_reducible refine' w_isNR ?_
  | with_reducible refine' w_notNN ?_
  | with_reducible refine' w_notNI ?_
  | with_reducible refine' w_notNS ?_
  | with_reducible refine' w_notNR ?_
  | with_reducible refine' w_int1 ?_
  | with_reducible refine' w_int1b ?_
  | with_reducible refine' w_tup ?_
  | with_reducible refine' w_lst ?_
  | with_reducible refine' w_dnew ?_
  | with_reducible refine' w_sl ?_
  | with_reducible refine' w_noPart ?_
  | with_reducible refine' w_part ?_
  | with_reducible refine' w_retN ?_
  | with_reducible refine' w_brk ?_
  | with_reducible refine' w_cont ?_
  | with_reducible refine' w_chain ?_
  | with_reducible refine' w_lt ?_
  | with_reducible refine' w_le ?_
  | with_reducible refine' w_gt ?_
  | with_reducible refine' w_ge ?_
  | with_reducible refine' w_ltS ?_
  | with_reducible refine' w_leS ?_
  | with_reducible refine' w_gtS ?_
  | with_reducible refine' w_geS ?_
  | ((with_reducible refine' w_addS ?h ?_); (case h => walk_at "small"))
  | with_reducible refine' w_inS ?_
  | with_reducible refine' w_ninS ?_
  | with_reducible refine' w_par ?_
  | with_reducible refine' w_v2 ?_
  | with_reducible refine' w_max2 ?_
  | with_reducible refine' w_min2 ?_
  | with_reducible refine' w_tru ?_
  | with_reducible refine' w_meth ?_
  | ((with_reducible refine' w_meth1 ?h ?l ?_); (case h => walk_at "hk"); (case l => rfl))
  | with_reducible refine' w_make ?_
  | ((with_reducible refine' w_isiI ?h ?_); (case h => walk_at "kit"))
  | ((with_reducible refine' w_isiB ?h ?_); (case h => walk_at "kit"))
  | ((with_reducible refine' w_isiN ?h ?_); (case h => walk_at "kit"))
  | ((with_reducible refine' w_isiS ?h ?_); (case h => walk_at "kit"))
  | ((with_reducible refine' w_isiSL ?h ?e ?_); (case h => walk_at "sq"); (case e => walk_at "kit"))
  | ((with_reducible refine' w_isiST ?h ?e ?_); (case h => walk_at "st"); (case e => walk_at "kit"))
  | ((with_reducible refine' w_i ?h ?_); (case h => walk_at "sc"))
  | with_reducible refine' w_ttL ?_
  | with_reducible refine' w_ffL ?_
  | ((with_reducible refine' w_tt ?h ?_); (case h => first | exact dB_t (by decide) | exact nB_t (by decide) | decide))
  | ((with_reducible refine' w_ff ?h ?_); (case h => first | exact dB_f (by decide) | exact nB_f (by decide) | decide))
  | ((with_reducible refine' w_lenS ?h ?_); (case h => walk_at "sq"))
  | ((with_reducible refine' w_lenT ?h ?_); (case h => walk_at "st"))
  | ((with_reducible refine' w_slL ?h ?_); (case h => walk_at "sq"))
  | ((with_reducible refine' w_aug ?h ?_); (case h => rfl))
  | with_reducible refine' w_ip ?_
  | ((with_reducible refine' w_cat ?h1 ?h2 ?h3 ?_); (case h1 => walk_at "hk"); (case h2 => walk_at "hk"); (case h3 => walk_at "small"))
  | ((with_reducible refine' w_ixL ?h1 ?h2 ?_); (case h1 => walk_at "sq"); (case h2 => rfl))
  | ((with_reducible refine' w_ixT ?h1 ?h2 ?_); (case h1 => walk_at "st"); (case h2 => rfl))
  | ((with_reducible refine' w_lenStr ?h ?_); (case h => walk_at "small"))
  | ((with_reducible refine' w_slS ?h ?_); (case h => walk_at "small"))
  | ((with_reducible refine' w_sz ?h ?_); (case h => walk_at "small")))
local macro_rules | `(tactic| walk_at "go") => `(tactic| (repeat (first | walk_at "step" | walk_at "callx")))
local macro_rules | `(tactic| walk_at "goN") => `(tactic| (repeat (first | walk_at "step" | walk_at "callx" | ((with_reducible show ∀ p, _ = none → _); walk_at "new"))))
local macro_rules | `(tactic| walk_at "len") => `(tactic| first
  | (obtain ⟨rfl, _⟩ := h; rfl) | (obtain ⟨_, rfl, _⟩ := h; rfl) | (obtain ⟨_, _, rfl, _⟩ := h; rfl) | (obtain ⟨_, _, _, rfl, _⟩ := h; rfl) | (obtain ⟨_, _, _, _, rfl, _⟩ := h; rfl)
  | (obtain ⟨_, _, _, _, _, rfl, _⟩ := h; rfl) | (obtain ⟨_, _, _, _, _, _, rfl, _⟩ := h; rfl) | (obtain ⟨_, _, _, _, _, _, _, rfl, _⟩ := h; rfl) | (obtain ⟨_, _, _, _, _, _, _, _, rfl, _⟩ := h; rfl)
  | (obtain ⟨_, _, _, _, _, _, _, _, _, rfl, _⟩ := h; rfl) | (obtain ⟨_, _, _, _, _, _, _, _, _, _, rfl, _⟩ := h; rfl))
local macro_rules | `(tactic| walk_at "dec") => `(tactic| (first | with_reducible apply w_dec | with_reducible apply w_ndec | with_reducible apply w_bool) <;> intro hc)
local macro_rules | `(tactic| walk_at "msm") => `(tactic| first | with_reducible assumption | (rw [sizeLine_eq]; (try simp only [List.length_cons, List.length_nil, List.length_append, List.length_map, List.length_set, str_len_app, sign_len]); omega))
local macro_rules | `(tactic| walk_at "wne") => `(tactic| first | with_reducible assumption | exact Ne.symm (by with_reducible assumption) | ((refine' ne_w2 ?h2 ?h1); (case h2 => with_reducible assumption); (case h1 => walk_at "wk")) | ((refine' ne_w2s ?h2 ?h1); (case h2 => with_reducible assumption); (case h1 => walk_at "wk")))
local macro_rules | `(tactic| walk_at "wk") => `(tactic| first | with_reducible assumption | with_reducible exact ws_same | ((with_reducible refine' ws_lk ?h1 ?h2); (case h1 => walk_at "wne"); (case h2 => walk_at "wk")) | ((with_reducible refine' we_lk ?h1 ?h2); (case h1 => walk_at "wne"); (case h2 => walk_at "wk")))
local macro_rules | `(tactic| walk_at "sd") => `(tactic| first | with_reducible assumption | with_reducible exact SeqD.lst _ | with_reducible exact SeqD.scr _ | ((with_reducible refine' SeqD.own ?h); (case h => walk_at "wk")) | ((with_reducible refine' SeqD.er ?m ?h); (case h => with_reducible assumption); (case m => walk_at "sub")))
local macro_rules | `(tactic| walk_at "cd") => `(tactic| first | with_reducible assumption | with_reducible exact CatD.lst _ | ((with_reducible refine' CatD.own ?h); (case h => walk_at "wk")))
local macro_rules | `(tactic| walk_at "dd") => `(tactic| first | with_reducible assumption | ((with_reducible refine' DctD.own ?h); (case h => walk_at "wk")) | ((with_reducible refine' DctD.lock ?h); (case h => walk_at "wk")))
local macro_rules | `(tactic| walk_at "le") => `(tactic| repeat (first | exact EnvLe.nil | exact EnvLe.refl _ | with_reducible refine' EnvLe.cons (.inl rfl) ?_ | with_reducible refine' EnvLe.cons (.inr rfl) ?_))
local macro_rules | `(tactic| walk_at "sub") => `(tactic| first | with_reducible assumption | exact Sub.refl _ | ((with_reducible refine' Sub.set ?h1); (case h1 => walk_at "sub")) | ((with_reducible refine' Sub.new ?h1 ?h2); (case h2 => walk_at "wn"); (case h1 => walk_at "sub")))
local macro_rules | `(tactic| walk_at "wn") => `(tactic| first | with_reducible assumption | ((with_reducible refine' ws_non ?h); (case h => with_reducible assumption)) | ((with_reducible refine' ws_non (ws_non ?h)); (case h => with_reducible assumption)) | ((with_reducible refine' ws_non (ws_non (ws_non ?h))); (case h => with_reducible assumption)))
local macro_rules | `(tactic| walk_at "own") => `(tactic| first | ((with_reducible refine' own_name ?h); (case h => decide)) | ((with_reducible refine' own_tup ?h); (case h => walk_at "own")) | ((with_reducible refine' own_cons ?h1 ?h2); (case h1 => walk_at "own"); (case h2 => walk_at "own")) | with_reducible exact own_nil)
local macro_rules | `(tactic| walk_at "mputf") => `(tactic| first | exact putD_nil | exact putD_hit | exact putD_miss (by decide) (by walk_at "mputf"))
local macro_rules | `(tactic| walk_at "mst") => `(tactic| first
  | with_reducible refine' ws_seq ?_
  | with_reducible refine' we_op ?_
  | ((with_reducible refine' we_var ?h ?_); (case h => rfl))
  | with_reducible refine' we_c ?_
  | with_reducible refine' d_i0 ?_
  | with_reducible refine' wa_cons ?_
  | with_reducible refine' wa_nil ?_
  | with_reducible refine' ws_asg ?_
  | ((with_reducible refine' wg_name ?e ?_); (case e => walk_at "set"))
  | with_reducible refine' ws_if ?_
  | with_reducible refine' we_test ?_
  | with_reducible refine' we_tB ?_
  | with_reducible refine' we_bl ?_
  | with_reducible refine' d_eqI ?_
  | with_reducible refine' d_neI ?_
  | with_reducible refine' d_eqS ?_
  | with_reducible refine' d_neS ?_
  | with_reducible refine' ws_ret ?_
  | with_reducible refine' ws_for ?_
  | with_reducible refine' we_fld ?_
  | ((with_reducible refine' d_fldW ?h ?c ?n ?l ?_); (case h => walk_at "wk"); (case c => assumption); (case n => assumption); (case l => rfl))
  | ((with_reducible refine' d_fldO ?c ?n ?l ?_); (case c => assumption); (case n => assumption); (case l => rfl))
  | with_reducible refine' ws_fld ?_
  | ((with_reducible refine' d_sfld ?h ?c ?n ?l ?he ?_); (case h => walk_at "wk"); (case c => assumption); (case n => assumption); (case he => walk_at "mputf"); (case l => (simp only [List.length_cons, List.length_nil]; omega)))
  | with_reducible refine' we_dget ?_
  | with_reducible refine' we_din ?_
  | with_reducible refine' we_dnotin ?_
  | ((with_reducible refine' d_dinI ?h ?_); (case h => walk_at "dd"))
  | ((with_reducible refine' d_dinS ?h ?_); (case h => walk_at "dd"))
  | with_reducible refine' ws_dput ?_
  | with_reducible refine' we_dnew ?_
  | with_reducible refine' we_bm ?_
  | with_reducible refine' we_bm0 ?_
  | ((with_reducible refine' d_seq ?h ?_); (case h => walk_at "sd"))
  | with_reducible refine' wi_list ?_
  | ((with_reducible refine' d_sq ?h ?_); (case h => walk_at "sd"))
  | with_reducible refine' wi_tup ?_
  | with_reducible refine' d_tp ?_
  | with_reducible refine' wi_str ?_
  | with_reducible refine' d_st ?_
  | with_reducible refine' wi_rng1 ?_
  | ((with_reducible refine' d_r1 ?h ?_); (case h => omega))
  | with_reducible refine' wi_rng2 ?_
  | ((with_reducible refine' d_r2 ?h ?_); (case h => omega))
  | with_reducible refine' wi_rng3 ?_
  | with_reducible refine' wi_enum ?_
  | with_reducible refine' wi_rev ?_
  | ((with_reducible refine' d_one ?h ?_); (case h => walk_at "sd"))
  | with_reducible refine' wi_zip ?_
  | ((with_reducible refine' d_two ?h ?h2 ?_); (case h => walk_at "sd"); (case h2 => walk_at "sd"))
  | with_reducible refine' wg_tupL ?_
  | with_reducible refine' wgs_cons ?_
  | with_reducible refine' wgs_nil ?_
  | with_reducible refine' we_m1 ?_
  | with_reducible refine' d_isS ?_
  | with_reducible refine' ws_next ?_
  | with_reducible refine' we_cb ?_
  | with_reducible refine' we_and ?_
  | with_reducible refine' we_or ?_
  | with_reducible refine' we_not ?_
  | with_reducible refine' we_andV ?_
  | with_reducible refine' we_orV ?_
  | with_reducible refine' we_notV ?_
  | with_reducible refine' we_if ?_
  | with_reducible refine' ws_drop ?_
  | with_reducible refine' we_un ?_
  | with_reducible refine' d_u ?_
  | with_reducible refine' d_isNN ?_
  | with_reducible refine' d_isNI ?_
  | with_reducible refine' d_isNS ?_
  | with_reducible refine' d_isNR ?_
  | with_reducible refine' d_notNN ?_
  | with_reducible refine' d_notNI ?_
  | with_reducible refine' d_notNS ?_
  | with_reducible refine' d_notNR ?_
  | with_reducible refine' d_int1 ?_
  | with_reducible refine' d_int1b ?_
  | with_reducible refine' we_tup ?_
  | with_reducible refine' we_lstF ?_
  | with_reducible refine' we_sl ?_
  | with_reducible refine' wo_no ?_
  | with_reducible refine' wo_part ?_
  | with_reducible refine' wo_i ?_
  | with_reducible refine' ws_retN ?_
  | with_reducible refine' ws_brk ?_
  | with_reducible refine' ws_cont ?_
  | with_reducible refine' we_chain ?_
  | with_reducible refine' d_lt ?_
  | with_reducible refine' d_le ?_
  | with_reducible refine' d_gt ?_
  | with_reducible refine' d_ge ?_
  | with_reducible refine' d_ltS ?_
  | with_reducible refine' d_leS ?_
  | with_reducible refine' d_gtS ?_
  | with_reducible refine' d_geS ?_
  | ((with_reducible refine' d_addS ?h ?_); (case h => walk_at "msm"))
  | with_reducible refine' d_inS ?_
  | with_reducible refine' d_ninS ?_
  | with_reducible refine' ws_par ?_
  | with_reducible refine' d_v2 ?_
  | with_reducible refine' d_max2 ?_
  | with_reducible refine' d_min2 ?_
  | with_reducible refine' we_meth ?_
  | ((with_reducible refine' d_meth ?h ?l ?_); (case h => walk_at "wk"); (case l => rfl))
  | ((with_reducible refine' d_isiI ?h ?_); (case h => walk_at "kit"))
  | ((with_reducible refine' d_isiB ?h ?_); (case h => walk_at "kit"))
  | ((with_reducible refine' d_isiN ?h ?_); (case h => walk_at "kit"))
  | ((with_reducible refine' d_isiS ?h ?_); (case h => walk_at "kit"))
  | ((with_reducible refine' d_isiT ?h ?_); (case h => walk_at "kit"))
  | ((with_reducible refine' d_isiL ?h ?hk ?_); (case h => walk_at "sd"); (case hk => walk_at "kit"))
  | ((with_reducible refine' d_i ?h ?_); (case h => walk_at "sc"))
  | with_reducible refine' w_ttL ?_
  | with_reducible refine' w_ffL ?_
  | ((with_reducible refine' w_tt ?h ?_); (case h => first | exact dB_t (by decide) | exact nB_t (by decide) | decide))
  | ((with_reducible refine' w_ff ?h ?_); (case h => first | exact dB_f (by decide) | exact nB_f (by decide) | decide))
  | with_reducible refine' d_lenT ?_
  | ((with_reducible refine' d_lenL ?h ?_); (case h => walk_at "sd"))
  | ((with_reducible refine' d_lenD ?h ?_); (case h => walk_at "wk"))
  | ((with_reducible refine' d_slLF ?h ?_); (case h => walk_at "sd"))
  | ((with_reducible refine' ws_aug ?h ?_); (case h => rfl))
  | with_reducible refine' d_ip ?_
  | ((with_reducible refine' d_ixL ?h1 ?h2 ?_); (case h1 => walk_at "sd"); (case h2 => rfl))
  | ((with_reducible refine' d_ixT ?h2 ?_); (case h2 => rfl))
  | ((with_reducible refine' d_ixAL ?h1 ?h2 ?_); (case h1 => walk_at "sd"); (case h2 => rfl))
  | ((with_reducible refine' d_ixAT ?h2 ?_); (case h2 => rfl))
  | ((with_reducible refine' d_lenStr ?h ?_); (case h => walk_at "msm"))
  | ((with_reducible refine' d_slS ?h ?_); (case h => walk_at "msm"))
  | ((with_reducible refine' d_sz ?h ?_); (case h => walk_at "msm"))
  | ((with_reducible refine' d_catF ?h1 ?h2 ?h3 ?_); (case h1 => walk_at "cd"); (case h2 => walk_at "cd"); (case h3 => walk_at "msm"))
  | ((with_reducible refine' d_catQF ?h1 ?h2 ?h3 ?_); (case h1 => walk_at "sd"); (case h2 => walk_at "sd"); (case h3 => walk_at "msm"))
  | ((with_reducible refine' d_app ?h ?hl ?_); (case h => walk_at "wk"); (case hl => walk_at "msm"))
  | ((with_reducible refine' d_ext ?h ?h2 ?hl ?_); (case h => walk_at "wk"); (case h2 => walk_at "cd"); (case hl => walk_at "msm"))
  | ((with_reducible refine' d_clr ?h ?_); (case h => walk_at "wk"))
  | ((with_reducible refine' d_rev ?h ?_); (case h => walk_at "wk"))
  | ((with_reducible refine' d_listF ?h ?_); (case h => walk_at "sd"))
  | with_reducible refine' d_listTF ?_
  | ((with_reducible refine' we_lcLF ?ow ?_); (case ow => walk_at "own"))
  | with_reducible refine' wt_yes ?_
  | with_reducible rw [ws_ws])
local macro_rules | `(tactic| walk_at "mgo") => `(tactic| (repeat (first | walk_at "mst" | walk_at "callm" | with_reducible refine' we_call ?_)))
local macro_rules | `(tactic| walk_at "mgoN") => `(tactic| (repeat (first | walk_at "mst" | walk_at "callm" | with_reducible refine' we_call ?_ | ((with_reducible show ∀ p, _ = none → _); intro p hp; refine fz_id ?_))))
local macro_rules | `(tactic| walk_at "keep") => `(tactic| (intro p hp; refine fz_id ?_; walk_at "mgo"))
local macro_rules | `(tactic| walk_at "dat") => `(tactic| (intro p hp; refine fz_new hp ?_; clear hp; try clear p; walk_at "mgo"))
local macro_rules | `(tactic| walk_at "mkp") => `(tactic| first | with_reducible refine' mk_Let ?_ | with_reducible refine' mk_Reckon ?_ | with_reducible refine' mk_Take ?_ | with_reducible refine' mk_Put ?_ | with_reducible refine' mk_If ?_ | with_reducible refine' mk_Either ?_ | with_reducible refine' mk_Try ?_ | with_reducible refine' mk_Throw ?_ | with_reducible refine' mk_Wait ?_ | with_reducible refine' ex_si ?_ | with_reducible refine' ex_ss ?_ | with_reducible refine' ex_ssss ?_)
def plainRow : Pt → List V
  | .let_ s n => [.str "let", .str s, .int n]
  | .rk w s o t => [.str w, .str s, .str o, .str t]
  | .take s p => [.str "take", .str s, .str p]
  | .put p s => [.str "put", .str p, .str s]
  | .throw n s => [.str "throw", .str n, .str s]
  | _ => [.str "wait"]
abbrev Rows := List (List V)
def twoM (hd : List V) (one : Rows) (f : Nat) (other : Nat → Rows) : Rows :=
  [hd ++ [.int ((f + one.length + 2 : Nat) : Int)]] ++ one ++ [[.str "jump", .int ((f + one.length + 2 + (other (f + one.length + 2)).length : Nat) : Int)]] ++ other (f + one.length + 2)
mutual
def partRows : Pt → Nat → Rows
  | .iff s ps os, f => twoM [.str "unless", .str s] (rowsFrom ps (f + 1)) f (rowsFrom os)
  | .eith ps os, f => twoM [.str "either"] (rowsFrom ps (f + 1) ++ [[.str "settle"]]) f (rowsFrom os)
  | .tryy ps n s os, f => twoM [.str "guard", .str n, .str s] (rowsFrom ps (f + 1) ++ [[.str "settle"]]) f (rowsFrom os)
  | .let_ s n, _ => [plainRow (.let_ s n)]
  | .rk w s o t, _ => [plainRow (.rk w s o t)]
  | .take s p, _ => [plainRow (.take s p)]
  | .put p s, _ => [plainRow (.put p s)]
  | .throw n s, _ => [plainRow (.throw n s)]
  | .wait, _ => [plainRow .wait]
def rowsFrom : List Pt → Nat → Rows
  | [], _ => []
  | p :: r, f => partRows p f ++ rowsFrom r (f + (partRows p f).length)
end
mutual
def lenP : Pt → Nat
  | .iff _ ps os => 2 + lenPs ps + lenPs os
  | .eith ps os => 3 + lenPs ps + lenPs os
  | .tryy ps _ _ os => 3 + lenPs ps + lenPs os
  | .let_ .. | .rk .. | .take .. | .put .. | .throw .. | .wait => 1
def lenPs : List Pt → Nat
  | [] => 0
  | p :: r => lenP p + lenPs r
end
mutual
def ndP : Pt → Nat
  | .iff _ ps os => 3 + max (ndPs ps) (ndPs os)
  | .eith ps os => 3 + max (ndPs ps) (ndPs os)
  | .tryy ps _ _ os => 3 + max (ndPs ps) (ndPs os)
  | .let_ .. | .rk .. | .take .. | .put .. | .throw .. | .wait => 1
def ndPs : List Pt → Nat
  | [] => 0
  | p :: r => max (ndP p) (ndPs r)
end
mutual
theorem partRows_len : ∀ (p : Pt) (f : Nat), (partRows p f).length = lenP p
  | .iff s ps os, f => by simp only [partRows, twoM, lenP, List.length_append, List.length_cons, List.length_nil, rowsFrom_len]; omega
  | .eith ps os, f => by simp only [partRows, twoM, lenP, List.length_append, List.length_cons, List.length_nil, rowsFrom_len]; omega
  | .tryy ps n s os, f => by simp only [partRows, twoM, lenP, List.length_append, List.length_cons, List.length_nil, rowsFrom_len]; omega
  | .let_ .., _ | .rk .., _ | .take .., _ | .put .., _ | .throw .., _ | .wait, _ => by simp [partRows, lenP]
theorem rowsFrom_len : ∀ (ps : List Pt) (f : Nat), (rowsFrom ps f).length = lenPs ps
  | [], _ => rfl
  | p :: r, f => by simp only [rowsFrom, lenPs, List.length_append, partRows_len p, rowsFrom_len r]
end
theorem rowsFrom_app : ∀ (ps qs : List Pt) (f : Nat), rowsFrom (ps ++ qs) f = rowsFrom ps f ++ rowsFrom qs (f + lenPs ps)
  | [], qs, f => by simp [rowsFrom, lenPs]
  | p :: r, qs, f => by
    rw [List.cons_append, rowsFrom, rowsFrom, rowsFrom_app r qs, partRows_len, lenPs, List.append_assoc, Nat.add_assoc]
theorem lenPs_app (ps qs : List Pt) : lenPs (ps ++ qs) = lenPs ps + lenPs qs := by
  induction ps with
  | nil => simp [lenPs]
  | cons p r ih => rw [List.cons_append, lenPs, lenPs, ih]; omega
theorem rowsFrom_take {ps : List Pt} {i : Nat} {p : Pt} (h : ps[i]? = some p) (f : Nat) : rowsFrom (ps.take (i + 1)) f = rowsFrom (ps.take i) f ++ partRows p (f + lenPs (ps.take i)) := by
  rw [List.take_succ, h, rowsFrom_app]
  show _ ++ rowsFrom [p] _ = _
  rw [rowsFrom, rowsFrom, List.append_nil]
theorem lenPs_take (ps : List Pt) (i : Nat) : lenPs (ps.take i) ≤ lenPs ps := by
  have h : lenPs (ps.take i ++ ps.drop i) = lenPs (ps.take i) + lenPs (ps.drop i) := lenPs_app _ _
  rw [List.take_append_drop] at h
  omega
theorem lenP_mem {ps : List Pt} {i : Nat} {p : Pt} (h : ps[i]? = some p) : lenPs (ps.take i) + lenP p ≤ lenPs ps := by
  have h1 := lenPs_take ps (i + 1)
  rw [List.take_succ, h, lenPs_app] at h1
  simpa [lenPs] using h1
theorem ndP_mem : ∀ {ps : List Pt} {i : Nat} {p : Pt}, ps[i]? = some p → ndP p ≤ ndPs ps
  | q :: r, 0, p, h => by cases h; rw [ndPs]; exact Nat.le_max_left _ _
  | q :: r, i + 1, p, h => by rw [ndPs]; exact Nat.le_trans (ndP_mem (by simpa using h)) (Nat.le_max_right _ _)
theorem ndP_pos : ∀ p : Pt, 1 ≤ ndP p
  | .iff .. | .eith .. | .tryy .. => by simp only [ndP]; omega
  | .let_ .. | .rk .. | .take .. | .put .. | .throw .. | .wait => by simp [ndP]
abbrev rwD (r : List V) : D := .tup (r.map D.raw)
abbrev rowsL (rs : Rows) : List D := rs.map rwD
structure SidesD (d : Ad) (C : Addr) (ns : List Str) (vs : List D) (ps os : List Pt) : Prop where
  c : Cls d.K C
  n1 : NoAttr d.K C "parts"
  n2 : NoAttr d.K C "others"
  l1 : (ns.zip vs).lookup ("parts" : Str) = some (.lst (psD d ps))
  l2 : (ns.zip vs).lookup ("others" : Str) = some (.lst (psD d os))
def p_plain_row (d : Ad) : PF := fun ds W Q => ∃ (p : Pt), ds = [pD d p] ∧ lenP p = 1 ∧ Q (rwD (plainRow p)) W
def pN_two_sides (n : Nat) (d : Ad) : PF := fun ds W Q => ∃ (hd : List D) (C : Addr) (ns : List Str) (vs : List D) (f : Nat) (c : D), ds = [.tup hd, .obj C ns vs, .int (f : Nat), c] ∧ ∃ (h2 : List V) (cr : Rows) (ps os : List Pt), hd = h2.map D.raw ∧ h2 ≠ [] ∧ h2.length ≤ 10 ∧ SidesD d C ns vs ps os ∧ SeqD W c (rowsL cr) ∧ cr.length ≤ 10 ∧
  lenPs ps + lenPs os ≤ 10000 ∧ 2 + max (ndPs ps) (ndPs os) ≤ n ∧ ∀ q, W q = none → Q (.ptr q) (wset W q (.lst (rowsL (twoM h2 (rowsFrom ps (f + 1) ++ cr) f (rowsFrom os)))))
def pN_part_rows (n : Nat) (d : Ad) : PF := fun ds W Q => ∃ (p : Pt) (f : Nat), ds = [pD d p, .int (f : Nat)] ∧ lenP p ≤ 10000 ∧ ndP p ≤ n ∧ ∀ q, W q = none → Q (.ptr q) (wset W q (.lst (rowsL (partRows p f))))
def pN_rows_from (n : Nat) (d : Ad) : PF := fun ds W Q => ∃ (l : D) (f : Nat), ds = [l, .int (f : Nat)] ∧ ∃ (ps : List Pt), SeqD W l (psD d ps) ∧ lenPs ps ≤ 10000 ∧ 1 + ndPs ps ≤ n ∧ ∀ q, W q = none → Q (.ptr q) (wset W q (.lst (rowsL (rowsFrom ps f))))
def p_rows_of (d : Ad) : PF := fun ds W Q => ∃ (l : D), ds = [l] ∧ ∃ (ps : List Pt), SeqD W l (psD d ps) ∧ lenPs ps ≤ 10000 ∧ 1 + ndPs ps ≤ 40 ∧ ∀ q, W q = none → Q (.ptr q) (wset W q (.lst (rowsL (rowsFrom ps 0 ++ [[.str "lay"]]))))
abbrev sp_plain_row (d : Ad) : Sp := lift d.K (p_plain_row d)
abbrev spN_two_sides (n : Nat) (d : Ad) : Sp := lift d.K (pN_two_sides n d)
abbrev spN_part_rows (n : Nat) (d : Ad) : Sp := lift d.K (pN_part_rows n d)
abbrev spN_rows_from (n : Nat) (d : Ad) : Sp := lift d.K (pN_rows_from n d)
abbrev sp_two_sides (d : Ad) : Sp := spN_two_sides 40 d
abbrev sp_part_rows (d : Ad) : Sp := spN_part_rows 40 d
abbrev sp_rows_from (d : Ad) : Sp := spN_rows_from 40 d
abbrev sp_rows_of (d : Ad) : Sp := lift d.K (p_rows_of d)
section
variable {d : Ad} {vs : List V} {H : Hp} {Q : VK} {E : XK}
theorem no_two_sides (h : spN_two_sides 0 d vs H Q E) : False := by
  obtain ⟨_, _, _, _, _, _, ⟨_, _, _, _, _, _, _, _, _, _, _, _, _, _, _, _, _, _, h, _⟩, _⟩ := h
  omega
theorem no_part_rows (h : spN_part_rows 0 d vs H Q E) : False := by
  obtain ⟨_, _, _, _, _, _, ⟨p, _, _, _, h, _⟩, _⟩ := h
  have := ndP_pos p
  omega
theorem no_rows_from (h : spN_rows_from 0 d vs H Q E) : False := by
  obtain ⟨_, _, _, _, _, _, ⟨_, _, _, _, _, _, h, _⟩, _⟩ := h
  omega
end
abbrev N_plain_row : List Str := ["part"]
def t_plain_row (d : Ad) : TS :=
  (tSeq (tIfS (tB (tCB (rIsi d.K) (tCons (tVar 0) (tCons (tC (.ref d.cLet)) tNil)))) (tRet (tTup (tCons (tC (.str "let")) (tCons (tFld d.K (tVar 0) "slot") (tCons (tFld d.K (tVar 0) "number") tNil))))) tNext)
  (tSeq (tIfS (tB (tCB (rIsi d.K) (tCons (tVar 0) (tCons (tC (.ref d.cReckon)) tNil)))) (tRet (tTup (tCons (tFld d.K (tVar 0) "word") (tCons (tFld d.K (tVar 0) "slot") (tCons (tFld d.K (tVar 0) "one") (tCons (tFld d.K (tVar 0) "other") tNil)))))) tNext)
  (tSeq (tIfS (tB (tCB (rIsi d.K) (tCons (tVar 0) (tCons (tC (.ref d.cTake)) tNil)))) (tRet (tTup (tCons (tC (.str "take")) (tCons (tFld d.K (tVar 0) "slot") (tCons (tFld d.K (tVar 0) "place") tNil))))) tNext)
  (tSeq (tIfS (tB (tCB (rIsi d.K) (tCons (tVar 0) (tCons (tC (.ref d.cPut)) tNil)))) (tRet (tTup (tCons (tC (.str "put")) (tCons (tFld d.K (tVar 0) "place") (tCons (tFld d.K (tVar 0) "slot") tNil))))) tNext)
  (tSeq (tIfS (tB (tCB (rIsi d.K) (tCons (tVar 0) (tCons (tC (.ref d.cThrow)) tNil)))) (tRet (tTup (tCons (tC (.str "throw")) (tCons (tFld d.K (tVar 0) "name") (tCons (tFld d.K (tVar 0) "slot") tNil))))) tNext)
  (tRet (tTup (tCons (tC (.str "wait")) tNil))))))))
abbrev N_two_sides : List Str := ["head", "part", "first", "closing", "one", "target", "other"]
def t_two_sides (n : Nat) (d : Ad) : TS :=
  (tSeq (tAsg (aCatQ d.K (tCall (spN_rows_from n d) [] E0 (tCons (tFld d.K (tVar 1) "parts") (tCons (aAdd (tVar 2) (tC (.int 1))) tNil))) (tVar 3)) (gName 4))
  (tSeq (tAsg (aAdd (aAdd (tVar 2) (tCB (Evl.rLenS d.K) (tCons (tVar 4) tNil))) (tC (.int 2))) (gName 5))
  (tSeq (tAsg (tCall (spN_rows_from n d) [] E0 (tCons (tFld d.K (tVar 1) "others") (tCons (tVar 5) tNil))) (gName 6))
  (tRet (aCatQ d.K (aCatQ d.K (aCatQ d.K (tLst (tCons (aCatT d.K (tVar 0) (tTup (tCons (tVar 5) tNil))) tNil)) (tVar 4)) (tLst (tCons (tTup (tCons (tC (.str "jump")) (tCons (aAdd (tVar 5) (tCB (Evl.rLenS d.K) (tCons (tVar 6) tNil))) tNil))) tNil))) (tVar 6))))))
abbrev N_part_rows : List Str := ["part", "first"]
def t_part_rows (n : Nat) (d : Ad) : TS :=
  (tSeq (tIfS (tB (tCB (rIsi d.K) (tCons (tVar 0) (tCons (tC (.ref d.cIf)) tNil)))) (tRet (tCall (spN_two_sides n d) [] E0 (tCons (tTup (tCons (tC (.str "unless")) (tCons (tFld d.K (tVar 0) "slot") tNil))) (tCons (tVar 0) (tCons (tVar 1) (tCons (tLst tNil) tNil)))))) tNext)
  (tSeq (tIfS (tB (tCB (rIsi d.K) (tCons (tVar 0) (tCons (tC (.ref d.cEither)) tNil)))) (tRet (tCall (spN_two_sides n d) [] E0 (tCons (tTup (tCons (tC (.str "either")) tNil)) (tCons (tVar 0) (tCons (tVar 1) (tCons (tLst (tCons (tTup (tCons (tC (.str "settle")) tNil)) tNil)) tNil)))))) tNext)
  (tSeq (tIfS (tB (tCB (rIsi d.K) (tCons (tVar 0) (tCons (tC (.ref d.cTry)) tNil)))) (tRet (tCall (spN_two_sides n d) [] E0 (tCons (tTup (tCons (tC (.str "guard")) (tCons (tFld d.K (tVar 0) "name") (tCons (tFld d.K (tVar 0) "slot") tNil)))) (tCons (tVar 0) (tCons (tVar 1) (tCons (tLst (tCons (tTup (tCons (tC (.str "settle")) tNil)) tNil)) tNil)))))) tNext)
  (tRet (tLst (tCons (tCall (sp_plain_row d) [] E0 (tCons (tVar 0) tNil)) tNil))))))
abbrev N_rows_from : List Str := ["parts", "first", "rows", "part"]
def t_rows_from (n : Nat) (d : Ad) : TS :=
  (tSeq (tAsg (tLst tNil) (gName 2))
  (tSeq (tFor (iList d.K (tVar 0)) (gName 3) (tDrop (tBM d.K "list" rExtend (tVar 2) (tCons (tCall (spN_part_rows n d) [] E0 (tCons (tVar 3) (tCons (aAdd (tVar 1) (tCB (Evl.rLenS d.K) (tCons (tVar 2) tNil))) tNil))) tNil))))
  (tRet (tVar 2))))
abbrev N_rows_of : List Str := ["deed"]
def t_rows_of (d : Ad) : TS :=
  (tRet (aCatQ d.K (tCall (sp_rows_from d) [] E0 (tCons (tVar 0) (tCons (tC (.int 0)) tNil))) (tLst (tCons (tTup (tCons (tC (.str "lay")) tNil)) tNil))))
section
variable {d : Ad} {W : Wd} {Q : KD} {C : Addr} {k : Kd} {b : Bool} {ns : List Str} {ds : List D}
theorem m_isi_let_ (T : TParts d) (k : Kd) (h : decide (k = .let_) = b) (e : cOf d k = C) (q : Q (.raw (.bl b)) W) : RC d.K (rIsi d.K) [.obj C ns ds, .raw (.ref d.cLet)] W Q := e ▸ d_isiO T (j := .let_) (by intro z; cases z) h q
theorem m_isi_rk (T : TParts d) (k : Kd) (h : decide (k = .rk) = b) (e : cOf d k = C) (q : Q (.raw (.bl b)) W) : RC d.K (rIsi d.K) [.obj C ns ds, .raw (.ref d.cReckon)] W Q := e ▸ d_isiO T (j := .rk) (by intro z; cases z) h q
theorem m_isi_take (T : TParts d) (k : Kd) (h : decide (k = .take) = b) (e : cOf d k = C) (q : Q (.raw (.bl b)) W) : RC d.K (rIsi d.K) [.obj C ns ds, .raw (.ref d.cTake)] W Q := e ▸ d_isiO T (j := .take) (by intro z; cases z) h q
theorem m_isi_put (T : TParts d) (k : Kd) (h : decide (k = .put) = b) (e : cOf d k = C) (q : Q (.raw (.bl b)) W) : RC d.K (rIsi d.K) [.obj C ns ds, .raw (.ref d.cPut)] W Q := e ▸ d_isiO T (j := .put) (by intro z; cases z) h q
theorem m_isi_throw (T : TParts d) (k : Kd) (h : decide (k = .throw) = b) (e : cOf d k = C) (q : Q (.raw (.bl b)) W) : RC d.K (rIsi d.K) [.obj C ns ds, .raw (.ref d.cThrow)] W Q := e ▸ d_isiO T (j := .throw) (by intro z; cases z) h q
theorem m_isi_iff (T : TParts d) (k : Kd) (h : decide (k = .iff) = b) (e : cOf d k = C) (q : Q (.raw (.bl b)) W) : RC d.K (rIsi d.K) [.obj C ns ds, .raw (.ref d.cIf)] W Q := e ▸ d_isiO T (j := .iff) (by intro z; cases z) h q
theorem m_isi_eith (T : TParts d) (k : Kd) (h : decide (k = .eith) = b) (e : cOf d k = C) (q : Q (.raw (.bl b)) W) : RC d.K (rIsi d.K) [.obj C ns ds, .raw (.ref d.cEither)] W Q := e ▸ d_isiO T (j := .eith) (by intro z; cases z) h q
theorem m_isi_tryy (T : TParts d) (k : Kd) (h : decide (k = .tryy) = b) (e : cOf d k = C) (q : Q (.raw (.bl b)) W) : RC d.K (rIsi d.K) [.obj C ns ds, .raw (.ref d.cTry)] W Q := e ▸ d_isiO T (j := .tryy) (by intro z; cases z) h q
end
local macro_rules | `(tactic| walk_at "callm") => `(tactic| first | ((with_reducible refine' m_isi_let_ ?t ?k ?h ?e ?_); (case t => assumption); (case e => assumption); (case h => rfl)) | ((with_reducible refine' m_isi_rk ?t ?k ?h ?e ?_); (case t => assumption); (case e => assumption); (case h => rfl)) | ((with_reducible refine' m_isi_take ?t ?k ?h ?e ?_); (case t => assumption); (case e => assumption); (case h => rfl)) | ((with_reducible refine' m_isi_put ?t ?k ?h ?e ?_); (case t => assumption); (case e => assumption); (case h => rfl)) | ((with_reducible refine' m_isi_throw ?t ?k ?h ?e ?_); (case t => assumption); (case e => assumption); (case h => rfl)) | ((with_reducible refine' m_isi_iff ?t ?k ?h ?e ?_); (case t => assumption); (case e => assumption); (case h => rfl)) | ((with_reducible refine' m_isi_eith ?t ?k ?h ?e ?_); (case t => assumption); (case e => assumption); (case h => rfl)) | ((with_reducible refine' m_isi_tryy ?t ?k ?h ?e ?_); (case t => assumption); (case e => assumption); (case h => rfl)))
section
variable {d : Ad} {vs : List V} {H : Hp} {Q : VK} {E : XK}
theorem pure_plain_row (T : TParts d) (h : sp_plain_row d vs H Q E) : t_plain_row d { nx := fun _ H' => Q .non H', rt := Q } (start N_plain_row vs) H := by
  refine lift_pure h fun ds W Q hp => ?_
  obtain ⟨p, rfl, h1, k⟩ := hp
  show WS d.K (t_plain_row d) [some (pD d p)] W _
  unfold t_plain_row
  cases p with
  | let_ s n =>
    have hk : cOf d .let_ = d.cLet := rfl
    have c : Cls d.K d.cLet := T.cl .let_
    have n0 : NoAttr d.K d.cLet "slot" := T.na .let_ _ (by simp [atK])
    have n1 : NoAttr d.K d.cLet "number" := T.na .let_ _ (by simp [atK])
    rw [pD]
    walk_at "mgo"
    exact ret_dat (Sub.refl _) k
  | rk w s o t =>
    have hk : cOf d .rk = d.cReckon := rfl
    have c : Cls d.K d.cReckon := T.cl .rk
    have n0 : NoAttr d.K d.cReckon "word" := T.na .rk _ (by simp [atK])
    have n1 : NoAttr d.K d.cReckon "slot" := T.na .rk _ (by simp [atK])
    have n2 : NoAttr d.K d.cReckon "one" := T.na .rk _ (by simp [atK])
    have n3 : NoAttr d.K d.cReckon "other" := T.na .rk _ (by simp [atK])
    rw [pD]
    walk_at "mgo"
    exact ret_dat (Sub.refl _) k
  | take s p =>
    have hk : cOf d .take = d.cTake := rfl
    have c : Cls d.K d.cTake := T.cl .take
    have n0 : NoAttr d.K d.cTake "slot" := T.na .take _ (by simp [atK])
    have n1 : NoAttr d.K d.cTake "place" := T.na .take _ (by simp [atK])
    rw [pD]
    walk_at "mgo"
    exact ret_dat (Sub.refl _) k
  | put p s =>
    have hk : cOf d .put = d.cPut := rfl
    have c : Cls d.K d.cPut := T.cl .put
    have n0 : NoAttr d.K d.cPut "place" := T.na .put _ (by simp [atK])
    have n1 : NoAttr d.K d.cPut "slot" := T.na .put _ (by simp [atK])
    rw [pD]
    walk_at "mgo"
    exact ret_dat (Sub.refl _) k
  | throw n s =>
    have hk : cOf d .throw = d.cThrow := rfl
    have c : Cls d.K d.cThrow := T.cl .throw
    have n0 : NoAttr d.K d.cThrow "name" := T.na .throw _ (by simp [atK])
    have n1 : NoAttr d.K d.cThrow "slot" := T.na .throw _ (by simp [atK])
    rw [pD]
    walk_at "mgo"
    exact ret_dat (Sub.refl _) k
  | wait  =>
    have hk : cOf d .wait = d.cWait := rfl
    have c : Cls d.K d.cWait := T.cl .wait
    rw [pD]
    walk_at "mgo"
    exact ret_dat (Sub.refl _) k
  | iff s ps os => simp [lenP] at h1; omega
  | eith ps os => simp [lenP] at h1; omega
  | tryy ps n s os => simp [lenP] at h1; omega
theorem psD_len (ps : List Pt) : (psD d ps).length = ps.length := by rw [psD_map, List.length_map]
theorem psD_get {ps : List Pt} {i : Nat} {x : D} (h : (psD d ps)[i]? = some x) : ∃ p, ps[i]? = some p ∧ x = pD d p := by
  rw [psD_map, List.getElem?_map] at h
  obtain ⟨p, h1, h2⟩ := Option.map_eq_some_iff.mp h
  exact ⟨p, h1, h2.symm⟩
theorem pure_rows_from {n : Nat} (h : spN_rows_from (n + 1) d vs H Q E) : t_rows_from n d { nx := fun _ H' => Q .non H', rt := Q } (start N_rows_from vs) H := by
  refine lift_pure h fun ds W Q hp => ?_
  obtain ⟨l, f, rfl, ps, hl, hlen, hnd, k⟩ := hp
  show WS d.K (t_rows_from n d) [some l, some (.raw (.int f)), none, none] W _
  unfold t_rows_from
  walk_at "mgo"
  intro R hR
  refine fz_id ?_
  walk_at "mgo"
  refine ⟨fun i e W' => e = [some l, some (.raw (.int f)), some (.ptr R), none] ∧ W' = wset W R (.lst (rowsL (rowsFrom (ps.take i) f))), nx_id ⟨rfl, by rw [List.take_zero]; rfl⟩, ?_, ?_, ?_⟩
  · rintro i e' W' hi ⟨rfl, rfl⟩
    exact hl.er (Sub.new (Sub.refl _) hR)
  · rintro i x e' W' hi hx ⟨rfl, rfl⟩
    obtain ⟨p, hp, rfl⟩ := psD_get hx
    have h2 := lenP_mem hp
    have h3 := ndP_mem hp
    walk_at "mgo"
    rw [List.length_map, rowsFrom_len]
    refine ⟨p, f + lenPs (ps.take i), rfl, by omega, by omega, fun q hq => ?_⟩
    walk_at "mgo"
    refine d_ext (by walk_at "wk") (by walk_at "cd") ?_ ?_
    · rw [List.length_map, List.length_map, rowsFrom_len, partRows_len, sizeLine_eq]; omega
    · walk_at "mgo"
      refine nx_of (by walk_at "le") ?m ⟨rfl, rfl⟩
      rw [show rowsL (rowsFrom (ps.take (i + 1)) f) = rowsL (rowsFrom (ps.take i) f) ++ rowsL (partRows p (f + lenPs (ps.take i))) from by rw [rowsFrom_take hp]; exact List.map_append]
      exact Sub.set (Sub.new (Sub.new (Sub.refl _) hR) (ws_non hq))
  · rintro e' W' ⟨rfl, rfl⟩
    walk_at "mgo"
    show FzQ (SubQ Q) (.raw (.ref R)) (wset W R (.lst (rowsL (rowsFrom (ps.take (psD d ps).length) f))))
    rw [psD_len, List.take_length]
    exact ret_own (Sub.refl _) (k R hR)
theorem pure_part_rows (T : TParts d) {n : Nat} (h : spN_part_rows (n + 1) d vs H Q E) : t_part_rows n d { nx := fun _ H' => Q .non H', rt := Q } (start N_part_rows vs) H := by
  refine lift_pure h fun ds W Q hp => ?_
  obtain ⟨p, f, rfl, hlen, hnd, k⟩ := hp
  show WS d.K (t_part_rows n d) [some (pD d p), some (.raw (.int f))] W _
  unfold t_part_rows
  cases p with
  | iff s ps os =>
    have hk : cOf d .iff = d.cIf := rfl
    have c : Cls d.K d.cIf := T.cl .iff
    have n0 : NoAttr d.K d.cIf "slot" := T.na .iff _ (by simp [atK])
    have n1 : NoAttr d.K d.cIf "parts" := T.na .iff _ (by simp [atK])
    have n2 : NoAttr d.K d.cIf "others" := T.na .iff _ (by simp [atK])
    simp only [lenP, ndP] at hlen hnd
    rw [pD]
    walk_at "mgo"
    walk_at "dat"
    refine ⟨_, _, _, _, f, _, rfl, [.str "unless", .str s], [], ps, os, rfl, by simp, by simp, ⟨c, n1, n2, rfl, rfl⟩, SeqD.lst _, by simp, by omega, by omega, fun q hq => ?_⟩
    refine ret_own (Sub.refl _) ?_
    have := k q hq
    rw [partRows] at this
    rw [List.append_nil]
    exact this
  | eith ps os =>
    have hk : cOf d .eith = d.cEither := rfl
    have c : Cls d.K d.cEither := T.cl .eith
    have n1 : NoAttr d.K d.cEither "parts" := T.na .eith _ (by simp [atK])
    have n2 : NoAttr d.K d.cEither "others" := T.na .eith _ (by simp [atK])
    simp only [lenP, ndP] at hlen hnd
    rw [pD]
    walk_at "mgo"
    walk_at "dat"
    refine ⟨_, _, _, _, f, _, rfl, [.str "either"], [[.str "settle"]], ps, os, rfl, by simp, by simp, ⟨c, n1, n2, rfl, rfl⟩, SeqD.lst _, by simp, by omega, by omega, fun q hq => ?_⟩
    refine ret_own (Sub.refl _) ?_
    have := k q hq
    rw [partRows] at this
    exact this
  | tryy ps m s os =>
    have hk : cOf d .tryy = d.cTry := rfl
    have c : Cls d.K d.cTry := T.cl .tryy
    have n0 : NoAttr d.K d.cTry "slot" := T.na .tryy _ (by simp [atK])
    have n1 : NoAttr d.K d.cTry "parts" := T.na .tryy _ (by simp [atK])
    have n2 : NoAttr d.K d.cTry "others" := T.na .tryy _ (by simp [atK])
    have n3 : NoAttr d.K d.cTry "name" := T.na .tryy _ (by simp [atK])
    simp only [lenP, ndP] at hlen hnd
    rw [pD]
    walk_at "mgo"
    walk_at "dat"
    refine ⟨_, _, _, _, f, _, rfl, [.str "guard", .str m, .str s], [[.str "settle"]], ps, os, rfl, by simp, by simp, ⟨c, n1, n2, rfl, rfl⟩, SeqD.lst _, by simp, by omega, by omega, fun q hq => ?_⟩
    refine ret_own (Sub.refl _) ?_
    have := k q hq
    rw [partRows] at this
    exact this
  | let_ s n =>
    have hk : cOf d .let_ = d.cLet := rfl
    rw [pD]
    walk_at "mgo"
    refine ⟨.let_ s n, by rw [pD], by simp [lenP], ?_⟩
    walk_at "mgo"
    intro q hq
    refine fz_id ?_
    have := k q hq
    rw [partRows] at this
    exact ret_own (Sub.refl _) this
  | rk w s o t =>
    have hk : cOf d .rk = d.cReckon := rfl
    rw [pD]
    walk_at "mgo"
    refine ⟨.rk w s o t, by rw [pD], by simp [lenP], ?_⟩
    walk_at "mgo"
    intro q hq
    refine fz_id ?_
    have := k q hq
    rw [partRows] at this
    exact ret_own (Sub.refl _) this
  | take s p =>
    have hk : cOf d .take = d.cTake := rfl
    rw [pD]
    walk_at "mgo"
    refine ⟨.take s p, by rw [pD], by simp [lenP], ?_⟩
    walk_at "mgo"
    intro q hq
    refine fz_id ?_
    have := k q hq
    rw [partRows] at this
    exact ret_own (Sub.refl _) this
  | put p s =>
    have hk : cOf d .put = d.cPut := rfl
    rw [pD]
    walk_at "mgo"
    refine ⟨.put p s, by rw [pD], by simp [lenP], ?_⟩
    walk_at "mgo"
    intro q hq
    refine fz_id ?_
    have := k q hq
    rw [partRows] at this
    exact ret_own (Sub.refl _) this
  | throw n s =>
    have hk : cOf d .throw = d.cThrow := rfl
    rw [pD]
    walk_at "mgo"
    refine ⟨.throw n s, by rw [pD], by simp [lenP], ?_⟩
    walk_at "mgo"
    intro q hq
    refine fz_id ?_
    have := k q hq
    rw [partRows] at this
    exact ret_own (Sub.refl _) this
  | wait  =>
    have hk : cOf d .wait = d.cWait := rfl
    rw [pD]
    walk_at "mgo"
    refine ⟨.wait , by rw [pD], by simp [lenP], ?_⟩
    walk_at "mgo"
    intro q hq
    refine fz_id ?_
    have := k q hq
    rw [partRows] at this
    exact ret_own (Sub.refl _) this
theorem pure_two_sides {n : Nat} (h : spN_two_sides (n + 1) d vs H Q E) : t_two_sides n d { nx := fun _ H' => Q .non H', rt := Q } (start N_two_sides vs) H := by
  refine lift_pure h fun ds W Q hp => ?_
  obtain ⟨_, C, ns, vs, f, cl, rfl, hd, cr, ps, os, rfl, hne, hh, ⟨c, n1, n2, l1, l2⟩, hcl, hcr, hlen, hnd, k⟩ := hp
  show WS d.K (t_two_sides n d) [some (.tup (hd.map D.raw)), some (.obj C ns vs), some (.raw (.int f)), some cl, none, none, none] W _
  unfold t_two_sides
  have b1 : lenPs ps ≤ 10000 := by omega
  have b2 : lenPs os ≤ 10000 := by omega
  have m1 := Nat.le_max_left (ndPs ps) (ndPs os)
  have m2 := Nat.le_max_right (ndPs ps) (ndPs os)
  walk_at "mgo"
  refine d_fldO c n1 l1 ?_
  walk_at "mgo"
  refine ⟨_, f + 1, rfl, ps, SeqD.lst _, b1, by omega, fun q hq => ?_⟩
  walk_at "mgo"
  refine d_catQF (by walk_at "sd") (hcl.er (Sub.new (Sub.refl _) hq)) ?_ ?_
  · rw [List.length_map, List.length_map, rowsFrom_len, sizeLine_eq]; omega
  rw [← List.map_append]
  walk_at "dat"
  rw [List.length_map]
  refine d_fldO c n2 l2 ?_
  walk_at "mgo"
  refine ⟨_, f + (rowsFrom ps (f + 1) ++ cr).length + 2, rfl, os, SeqD.lst _, b2, by omega, fun q2 hq2 => ?_⟩
  have ht : (((f + (rowsFrom ps (f + 1) ++ cr).length : Nat) : Int) + 2) = ((f + (rowsFrom ps (f + 1) ++ cr).length + 2 : Nat) : Int) := rfl
  have l3 : (rowsFrom ps (f + 1) ++ cr).length ≤ 10010 := by rw [List.length_append, rowsFrom_len]; omega
  have l4 : ((rowsFrom ps (f + 1) ++ cr).length : Nat) = (rowsL (rowsFrom ps (f + 1) ++ cr)).length := by rw [List.length_map]
  generalize (rowsFrom ps (f + 1) ++ cr) = one at *
  have l5 : (rowsFrom os (f + one.length + 2)).length ≤ 10000 := by rw [rowsFrom_len]; omega
  walk_at "mgo"
  refine d_catT (by simpa using hne) (by rw [List.length_map, sizeLine_eq]; simp; omega) ?_
  walk_at "mgo"
  walk_at "dat"
  walk_at "dat"
  rw [List.length_map]
  walk_at "mgo"
  walk_at "dat"
  walk_at "dat"
  intro p hp
  refine fz_id (ret_own (Sub.new (Sub.new (Sub.refl _) hq) (ws_non hq2)) ?_)
  have := k p (ws_non (ws_non hp))
  rw [show rowsL (twoM hd one f (rowsFrom os)) = [D.tup (hd.map D.raw ++ [D.raw (V.int ((f : Int) + (one.length : Nat) + 2))])] ++ rowsL one ++ [D.tup [D.raw (V.str "jump"), D.raw (V.int ((f : Int) + (one.length : Nat) + 2 + ((rowsFrom os (f + one.length + 2)).length : Nat)))]] ++ rowsL (rowsFrom os (f + one.length + 2)) from by
    show (twoM hd one f (rowsFrom os)).map rwD = _
    unfold twoM
    simp only [rwD, List.map_append, List.map_cons, List.map_nil]
    rfl] at this
  exact this
theorem pure_rows_of (h : sp_rows_of d vs H Q E) : t_rows_of d { nx := fun _ H' => Q .non H', rt := Q } (start N_rows_of vs) H := by
  refine lift_pure h fun ds W Q hp => ?_
  obtain ⟨l, rfl, ps, hl, hlen, hnd, k⟩ := hp
  show WS d.K (t_rows_of d) [some l] W _
  unfold t_rows_of
  walk_at "mgo"
  refine ⟨l, 0, rfl, ps, hl, hlen, hnd, fun q hq => ?_⟩
  walk_at "mgo"
  walk_at "dat"
  refine d_catQF (by walk_at "sd") (SeqD.lst _) ?_ ?_
  · rw [List.length_map, rowsFrom_len, sizeLine_eq]; simp; omega
  intro p hp
  refine fz_id (ret_own (Sub.new (Sub.refl _) hq) ?_)
  have := k p (ws_non hp)
  rw [show rowsL (rowsFrom ps 0 ++ [[.str "lay"]]) = rowsL (rowsFrom ps 0) ++ [D.tup [D.raw (V.str "lay")]] from List.map_append] at this
  exact this
end
end RT

set_option Elab.async false
set_option linter.all false
set_option maxRecDepth 100000
set_option maxHeartbeats 1000000
set_option autoImplicit false
namespace RT
open PySem L2
local macro_rules | `(tactic| walk_at "putf") => `(tactic| first | exact putF_nil | exact putF_hit | exact putF_miss (by decide) (by walk_at "putf"))
local macro_rules | `(tactic| walk_at "ne") => `(tactic| first | assumption | exact Ne.symm (by assumption) | ((refine' ne2 ?h1 ?h2); (case h1 => assumption); (case h2 => walk_at "hk")) | ((refine' ne2s ?h1 ?h2); (case h1 => assumption); (case h2 => walk_at "hk")) | exact ne_head (by assumption) | exact ne_of (by assumption) (by assumption) (by intro z; cases z))
local macro_rules | `(tactic| walk_at "hk") => `(tactic| first | assumption | with_reducible exact upd_same | ((with_reducible refine' up_ne ?h1 ?h2); (case h1 => walk_at "ne"); (case h2 => walk_at "hk")) | ((with_reducible refine' ex_at ?h1 ?h2); (case h1 => assumption); (case h2 => walk_at "hk")))
local macro_rules | `(tactic| walk_at "kit") => `(tactic| first | exact kit_int_int | exact kit_int_bool | exact kit_int_str | exact kit_int_list | exact kit_int_tuple | exact kit_int_dict | exact kit_bool_int | exact kit_bool_bool | exact kit_bool_str | exact kit_bool_list | exact kit_bool_tuple | exact kit_bool_dict | exact kit_str_int | exact kit_str_bool | exact kit_str_str | exact kit_str_list | exact kit_str_tuple | exact kit_str_dict | exact kit_NoneType_int | exact kit_NoneType_bool | exact kit_NoneType_str | exact kit_NoneType_list | exact kit_NoneType_tuple | exact kit_NoneType_dict | exact kit_list_int | exact kit_list_bool | exact kit_list_str | exact kit_list_list | exact kit_list_tuple | exact kit_list_dict | exact kit_tuple_int | exact kit_tuple_bool | exact kit_tuple_str | exact kit_tuple_list | exact kit_tuple_tuple | exact kit_tuple_dict | exact kit_dict_int | exact kit_dict_bool | exact kit_dict_str | exact kit_dict_list | exact kit_dict_tuple | exact kit_dict_dict)
local macro_rules | `(tactic| walk_at "sq") => `(tactic| first | assumption | ((with_reducible refine' SqL.of ?h); (case h => walk_at "hk")) | ((with_reducible refine' ex_sq ?h1 ?h2); (case h1 => assumption); (case h2 => walk_at "sq")))
local macro_rules | `(tactic| walk_at "st") => `(tactic| first | assumption | ((with_reducible refine' SqT.of ?h); (case h => walk_at "hk")) | ((with_reducible refine' ex_st ?h1 ?h2); (case h1 => assumption); (case h2 => walk_at "st")))
local macro_rules | `(tactic| walk_at "new") => `(tactic| (intro p hp; generalize hU : upd _ p _ = H'; have e1 := new_ex hp hU; have e2 := new_at hU; clear hU))
local macro_rules | `(tactic| walk_at "set") => `(tactic| ((try simp only [List.set_cons_succ, List.set_cons_zero]); rfl))
local macro_rules | `(tactic| walk_at "small") => `(tactic| first | assumption | (rw [sizeLine_eq]; (try simp only [List.length_cons, List.length_nil, str_len_app, sign_len]); omega) | (with_unfolding_all decide))
local macro_rules | `(tactic| walk_at "sc") => `(tactic| first | assumption | decide | omega | (unfold CMul; omega) | (unfold CDiv; omega) | (unfold CPow; decide) | (unfold CDiv; decide))
local macro_rules | `(tactic| walk_at "step") => `(tactic| first
  | with_reducible refine' w_seq ?_
  | with_reducible refine' w_op ?_
  | ((with_reducible refine' w_var ?h ?_); (case h => rfl))
  | with_reducible refine' w_c ?_
  | with_reducible refine' w_i0 ?_
  | with_reducible refine' w_cons ?_
  | with_reducible refine' w_nil ?_
  | with_reducible refine' w_asg ?_
  | ((with_reducible refine' w_gn ?e ?_); (case e => walk_at "set"))
  | with_reducible refine' w_ifS ?_
  | with_reducible refine' w_test ?_
  | with_reducible refine' w_tB ?_
  | with_reducible refine' w_bl ?_
  | with_reducible refine' w_int ?_
  | with_reducible refine' w_ref ?_
  | with_reducible refine' w_str ?_
  | with_reducible refine' w_eqI ?_
  | with_reducible refine' w_neI ?_
  | with_reducible refine' w_eqS ?_
  | with_reducible refine' w_neS ?_
  | with_reducible refine' w_ret ?_
  | with_reducible refine' w_for ?_
  | with_reducible refine' w_tFld ?_
  | ((with_reducible refine' w_fld ?h ?c ?n ?l ?_); (case h => walk_at "hk"); (case c => assumption); (case n => assumption); (case l => rfl))
  | with_reducible refine' w_sFld ?_
  | ((with_reducible refine' w_rsFld ?h ?c ?n ?l ?e ?_); (case h => walk_at "hk"); (case c => assumption); (case n => assumption); (case e => walk_at "putf"); (case l => (simp only [List.length_cons, List.length_nil]; omega)))
  | with_reducible refine' w_tDGet ?_
  | with_reducible refine' w_tDIn ?_
  | with_reducible refine' w_tDNotIn ?_
  | ((with_reducible refine' w_dinI ?h ?_); (case h => walk_at "hk"))
  | with_reducible refine' w_sDPut ?_
  | with_reducible refine' w_bm ?_
  | with_reducible refine' w_bm0 ?_
  | ((with_reducible refine' w_tyL ?h ?_); (case h => walk_at "sq"))
  | with_reducible refine' w_iRev ?_
  | ((with_reducible refine' w_rev1 ?h ?_); (case h => walk_at "sq"))
  | with_reducible refine' w_iItems ?_
  | with_reducible refine' w_iKeys ?_
  | with_reducible refine' w_iRng3 ?_
  | with_reducible refine' w_iZip ?_
  | with_reducible refine' w_gCons ?_
  | with_reducible refine' w_gNil ?_
  | ((with_reducible refine' w_gTup ?h ?l ?_); (case h => walk_at "st"); (case l => rfl))
  | with_reducible refine' w_m1 ?_
  | with_reducible refine' w_isS ?_
  | with_reducible refine' w_lc ?_
  | with_reducible refine' w_iList ?_
  | with_reducible refine' w_iTup ?_
  | with_reducible refine' w_iStr ?_
  | with_reducible refine' w_iRng1 ?_
  | with_reducible refine' w_iRng2 ?_
  | with_reducible refine' w_v1I ?_
  | with_reducible refine' w_v2I ?_
  | with_reducible refine' w_next ?_
  | with_reducible refine' w_call ?_
  | with_reducible refine' w_cb ?_
  | with_reducible refine' w_and ?_
  | with_reducible refine' w_or ?_
  | with_reducible refine' w_not ?_
  | with_reducible refine' w_andV ?_
  | with_reducible refine' w_orV ?_
  | with_reducible refine' w_notV ?_
  | with_reducible refine' w_ifE ?_
  | with_reducible refine' w_drop ?_
  | with_reducible refine' w_un ?_
  | with_reducible refine' w_u ?_
  | with_reducible refine' w_isNN ?_
  | with_reducible refine' w_isNI ?_
  | with_reducible refine' w_isNS ?_
  | with_reducible refine' w_isNR ?_
  | with_reducible refine' w_notNN ?_
  | with_reducible refine' w_notNI ?_
  | with_reducible refine' w_notNS ?_
  | with_reducible refine' w_notNR ?_
  | with_reducible refine' w_int1 ?_
  | with_reducible refine' w_int1b ?_
  | with_reducible refine' w_tup ?_
  | with_reducible refine' w_lst ?_
  | with_reducible refine' w_dnew ?_
  | with_reducible refine' w_sl ?_
  | with_reducible refine' w_noPart ?_
  | with_reducible refine' w_part ?_
  | with_reducible refine' w_retN ?_
  | with_reducible refine' w_brk ?_
  | with_reducible refine' w_cont ?_
  | with_reducible refine' w_chain ?_
  | with_reducible refine' w_lt ?_
  | with_reducible refine' w_le ?_
  | with_reducible refine' w_gt ?_
  | with_reducible refine' w_ge ?_
  | with_reducible refine' w_ltS ?_
  | with_reducible refine' w_leS ?_
  | with_reducible refine' w_gtS ?_
  | with_reducible refine' w_geS ?_
  | ((with_reducible refine' w_addS ?h ?_); (case h => walk_at "small"))
  | with_reducible refine' w_inS ?_
  | with_reducible refine' w_ninS ?_
  | with_reducible refine' w_par ?_
  | with_reducible refine' w_v2 ?_
  | with_reducible refine' w_max2 ?_
  | with_reducible refine' w_min2 ?_
  | with_reducible refine' w_tru ?_
  | with_reducible refine' w_meth ?_
  | ((with_reducible refine' w_meth1 ?h ?l ?_); (case h => walk_at "hk"); (case l => rfl))
  | with_reducible refine' w_make ?_
  | ((with_reducible refine' w_isiI ?h ?_); (case h => walk_at "kit"))
  | ((with_reducible refine' w_isiB ?h ?_); (case h => walk_at "kit"))
  | ((with_reducible refine' w_isiN ?h ?_); (case h => walk_at "kit"))
  | ((with_reducible refine' w_isiS ?h ?_); (case h => walk_at "kit"))
  | ((with_reducible refine' w_isiSL ?h ?e ?_); (case h => walk_at "sq"); (case e => walk_at "kit"))
  | ((with_reducible refine' w_isiST ?h ?e ?_); (case h => walk_at "st"); (case e => walk_at "kit"))
  | ((with_reducible refine' w_i ?h ?_); (case h => walk_at "sc"))
  | with_reducible refine' w_ttL ?_
  | with_reducible refine' w_ffL ?_
  | ((with_reducible refine' w_tt ?h ?_); (case h => first | exact dB_t (by decide) | exact nB_t (by decide) | decide))
  | ((with_reducible refine' w_ff ?h ?_); (case h => first | exact dB_f (by decide) | exact nB_f (by decide) | decide))
  | ((with_reducible refine' w_lenS ?h ?_); (case h => walk_at "sq"))
  | ((with_reducible refine' w_lenT ?h ?_); (case h => walk_at "st"))
  | ((with_reducible refine' w_slL ?h ?_); (case h => walk_at "sq"))
  | ((with_reducible refine' w_aug ?h ?_); (case h => rfl))
  | with_reducible refine' w_ip ?_
  | ((with_reducible refine' w_cat ?h1 ?h2 ?h3 ?_); (case h1 => walk_at "hk"); (case h2 => walk_at "hk"); (case h3 => walk_at "small"))
  | ((with_reducible refine' w_ixL ?h1 ?h2 ?_); (case h1 => walk_at "sq"); (case h2 => rfl))
  | ((with_reducible refine' w_ixT ?h1 ?h2 ?_); (case h1 => walk_at "st"); (case h2 => rfl))
  | ((with_reducible refine' w_lenStr ?h ?_); (case h => walk_at "small"))
  | ((with_reducible refine' w_slS ?h ?_); (case h => walk_at "small"))
  | ((with_reducible refine' w_sz ?h ?_); (case h => walk_at "small")))
local macro_rules | `(tactic| walk_at "go") => `(tactic| (repeat (first | walk_at "step" | walk_at "callx")))
local macro_rules | `(tactic| walk_at "goN") => `(tactic| (repeat (first | walk_at "step" | walk_at "callx" | ((with_reducible show ∀ p, _ = none → _); walk_at "new"))))
local macro_rules | `(tactic| walk_at "len") => `(tactic| first
  | (obtain ⟨rfl, _⟩ := h; rfl) | (obtain ⟨_, rfl, _⟩ := h; rfl) | (obtain ⟨_, _, rfl, _⟩ := h; rfl) | (obtain ⟨_, _, _, rfl, _⟩ := h; rfl) | (obtain ⟨_, _, _, _, rfl, _⟩ := h; rfl)
  | (obtain ⟨_, _, _, _, _, rfl, _⟩ := h; rfl) | (obtain ⟨_, _, _, _, _, _, rfl, _⟩ := h; rfl) | (obtain ⟨_, _, _, _, _, _, _, rfl, _⟩ := h; rfl) | (obtain ⟨_, _, _, _, _, _, _, _, rfl, _⟩ := h; rfl)
  | (obtain ⟨_, _, _, _, _, _, _, _, _, rfl, _⟩ := h; rfl) | (obtain ⟨_, _, _, _, _, _, _, _, _, _, rfl, _⟩ := h; rfl))
local macro_rules | `(tactic| walk_at "dec") => `(tactic| (first | with_reducible apply w_dec | with_reducible apply w_ndec | with_reducible apply w_bool) <;> intro hc)
local macro_rules | `(tactic| walk_at "msm") => `(tactic| first | with_reducible assumption | (rw [sizeLine_eq]; (try simp only [List.length_cons, List.length_nil, List.length_append, List.length_map, List.length_set, str_len_app, sign_len]); omega))
local macro_rules | `(tactic| walk_at "wne") => `(tactic| first | with_reducible assumption | exact Ne.symm (by with_reducible assumption) | ((refine' ne_w2 ?h2 ?h1); (case h2 => with_reducible assumption); (case h1 => walk_at "wk")) | ((refine' ne_w2s ?h2 ?h1); (case h2 => with_reducible assumption); (case h1 => walk_at "wk")))
local macro_rules | `(tactic| walk_at "wk") => `(tactic| first | with_reducible assumption | with_reducible exact ws_same | ((with_reducible refine' ws_lk ?h1 ?h2); (case h1 => walk_at "wne"); (case h2 => walk_at "wk")) | ((with_reducible refine' we_lk ?h1 ?h2); (case h1 => walk_at "wne"); (case h2 => walk_at "wk")))
local macro_rules | `(tactic| walk_at "sd") => `(tactic| first | with_reducible assumption | with_reducible exact SeqD.lst _ | with_reducible exact SeqD.scr _ | ((with_reducible refine' SeqD.own ?h); (case h => walk_at "wk")) | ((with_reducible refine' SeqD.er ?m ?h); (case h => with_reducible assumption); (case m => walk_at "sub")))
local macro_rules | `(tactic| walk_at "cd") => `(tactic| first | with_reducible assumption | with_reducible exact CatD.lst _ | ((with_reducible refine' CatD.own ?h); (case h => walk_at "wk")))
local macro_rules | `(tactic| walk_at "dd") => `(tactic| first | with_reducible assumption | ((with_reducible refine' DctD.own ?h); (case h => walk_at "wk")) | ((with_reducible refine' DctD.lock ?h); (case h => walk_at "wk")))
local macro_rules | `(tactic| walk_at "le") => `(tactic| repeat (first | exact EnvLe.nil | exact EnvLe.refl _ | with_reducible refine' EnvLe.cons (.inl rfl) ?_ | with_reducible refine' EnvLe.cons (.inr rfl) ?_))
local macro_rules | `(tactic| walk_at "sub") => `(tactic| first | with_reducible assumption | exact Sub.refl _ | ((with_reducible refine' Sub.set ?h1); (case h1 => walk_at "sub")) | ((with_reducible refine' Sub.new ?h1 ?h2); (case h2 => walk_at "wn"); (case h1 => walk_at "sub")))
local macro_rules | `(tactic| walk_at "wn") => `(tactic| first | with_reducible assumption | ((with_reducible refine' ws_non ?h); (case h => with_reducible assumption)) | ((with_reducible refine' ws_non (ws_non ?h)); (case h => with_reducible assumption)) | ((with_reducible refine' ws_non (ws_non (ws_non ?h))); (case h => with_reducible assumption)))
local macro_rules | `(tactic| walk_at "own") => `(tactic| first | ((with_reducible refine' own_name ?h); (case h => decide)) | ((with_reducible refine' own_tup ?h); (case h => walk_at "own")) | ((with_reducible refine' own_cons ?h1 ?h2); (case h1 => walk_at "own"); (case h2 => walk_at "own")) | with_reducible exact own_nil)
local macro_rules | `(tactic| walk_at "mputf") => `(tactic| first | exact putD_nil | exact putD_hit | exact putD_miss (by decide) (by walk_at "mputf"))
local macro_rules | `(tactic| walk_at "mst") => `(tactic| first
  | with_reducible refine' ws_seq ?_
  | with_reducible refine' we_op ?_
  | ((with_reducible refine' we_var ?h ?_); (case h => rfl))
  | with_reducible refine' we_c ?_
  | with_reducible refine' d_i0 ?_
  | with_reducible refine' wa_cons ?_
  | with_reducible refine' wa_nil ?_
  | with_reducible refine' ws_asg ?_
  | ((with_reducible refine' wg_name ?e ?_); (case e => walk_at "set"))
  | with_reducible refine' ws_if ?_
  | with_reducible refine' we_test ?_
  | with_reducible refine' we_tB ?_
  | with_reducible refine' we_bl ?_
  | with_reducible refine' d_eqI ?_
  | with_reducible refine' d_neI ?_
  | with_reducible refine' d_eqS ?_
  | with_reducible refine' d_neS ?_
  | with_reducible refine' ws_ret ?_
  | with_reducible refine' ws_for ?_
  | with_reducible refine' we_fld ?_
  | ((with_reducible refine' d_fldW ?h ?c ?n ?l ?_); (case h => walk_at "wk"); (case c => assumption); (case n => assumption); (case l => rfl))
  | ((with_reducible refine' d_fldO ?c ?n ?l ?_); (case c => assumption); (case n => assumption); (case l => rfl))
  | with_reducible refine' ws_fld ?_
  | ((with_reducible refine' d_sfld ?h ?c ?n ?l ?he ?_); (case h => walk_at "wk"); (case c => assumption); (case n => assumption); (case he => walk_at "mputf"); (case l => (simp only [List.length_cons, List.length_nil]; omega)))
  | with_reducible refine' we_dget ?_
  | with_reducible refine' we_din ?_
  | with_reducible refine' we_dnotin ?_
  | ((with_reducible refine' d_dinI ?h ?_); (case h => walk_at "dd"))
  | ((with_reducible refine' d_dinS ?h ?_); (case h => walk_at "dd"))
  | with_reducible refine' ws_dput ?_
  | with_reducible refine' we_dnew ?_
  | with_reducible refine' we_bm ?_
  | with_reducible refine' we_bm0 ?_
  | ((with_reducible refine' d_seq ?h ?_); (case h => walk_at "sd"))
  | with_reducible refine' wi_list ?_
  | ((with_reducible refine' d_sq ?h ?_); (case h => walk_at "sd"))
  | with_reducible refine' wi_tup ?_
  | with_reducible refine' d_tp ?_
  | with_reducible refine' wi_str ?_
  | with_reducible refine' d_st ?_
  | with_reducible refine' wi_rng1 ?_
  | ((with_reducible refine' d_r1 ?h ?_); (case h => omega))
  | with_reducible refine' wi_rng2 ?_
  | ((with_reducible refine' d_r2 ?h ?_); (case h => omega))
  | with_reducible refine' wi_rng3 ?_
  | with_reducible refine' wi_enum ?_
  | with_reducible refine' wi_rev ?_
  | ((with_reducible refine' d_one ?h ?_); (case h => walk_at "sd"))
  | with_reducible refine' wi_zip ?_
  | ((with_reducible refine' d_two ?h ?h2 ?_); (case h => walk_at "sd"); (case h2 => walk_at "sd"))
  | with_reducible refine' wg_tupL ?_
  | with_reducible refine' wgs_cons ?_
  | with_reducible refine' wgs_nil ?_
  | with_reducible refine' we_m1 ?_
  | with_reducible refine' d_isS ?_
  | with_reducible refine' ws_next ?_
  | with_reducible refine' we_cb ?_
  | with_reducible refine' we_and ?_
  | with_reducible refine' we_or ?_
  | with_reducible refine' we_not ?_
  | with_reducible refine' we_andV ?_
  | with_reducible refine' we_orV ?_
  | with_reducible refine' we_notV ?_
  | with_reducible refine' we_if ?_
  | with_reducible refine' ws_drop ?_
  | with_reducible refine' we_un ?_
  | with_reducible refine' d_u ?_
  | with_reducible refine' d_isNN ?_
  | with_reducible refine' d_isNI ?_
  | with_reducible refine' d_isNS ?_
  | with_reducible refine' d_isNR ?_
  | with_reducible refine' d_notNN ?_
  | with_reducible refine' d_notNI ?_
  | with_reducible refine' d_notNS ?_
  | with_reducible refine' d_notNR ?_
  | with_reducible refine' d_int1 ?_
  | with_reducible refine' d_int1b ?_
  | with_reducible refine' we_tup ?_
  | with_reducible refine' we_lstF ?_
  | with_reducible refine' we_sl ?_
  | with_reducible refine' wo_no ?_
  | with_reducible refine' wo_part ?_
  | with_reducible refine' wo_i ?_
  | with_reducible refine' ws_retN ?_
  | with_reducible refine' ws_brk ?_
  | with_reducible refine' ws_cont ?_
  | with_reducible refine' we_chain ?_
  | with_reducible refine' d_lt ?_
  | with_reducible refine' d_le ?_
  | with_reducible refine' d_gt ?_
  | with_reducible refine' d_ge ?_
  | with_reducible refine' d_ltS ?_
  | with_reducible refine' d_leS ?_
  | with_reducible refine' d_gtS ?_
  | with_reducible refine' d_geS ?_
  | ((with_reducible refine' d_addS ?h ?_); (case h => walk_at "msm"))
  | with_reducible refine' d_inS ?_
  | with_reducible refine' d_ninS ?_
  | with_reducible refine' ws_par ?_
  | with_reducible refine' d_v2 ?_
  | with_reducible refine' d_max2 ?_
  | with_reducible refine' d_min2 ?_
  | with_reducible refine' we_meth ?_
  | ((with_reducible refine' d_meth ?h ?l ?_); (case h => walk_at "wk"); (case l => rfl))
  | ((with_reducible refine' d_isiI ?h ?_); (case h => walk_at "kit"))
  | ((with_reducible refine' d_isiB ?h ?_); (case h => walk_at "kit"))
  | ((with_reducible refine' d_isiN ?h ?_); (case h => walk_at "kit"))
  | ((with_reducible refine' d_isiS ?h ?_); (case h => walk_at "kit"))
  | ((with_reducible refine' d_isiT ?h ?_); (case h => walk_at "kit"))
  | ((with_reducible refine' d_isiL ?h ?hk ?_); (case h => walk_at "sd"); (case hk => walk_at "kit"))
  | ((with_reducible refine' d_i ?h ?_); (case h => walk_at "sc"))
  | with_reducible refine' w_ttL ?_
  | with_reducible refine' w_ffL ?_
  | ((with_reducible refine' w_tt ?h ?_); (case h => first | exact dB_t (by decide) | exact nB_t (by decide) | decide))
  | ((with_reducible refine' w_ff ?h ?_); (case h => first | exact dB_f (by decide) | exact nB_f (by decide) | decide))
  | with_reducible refine' d_lenT ?_
  | ((with_reducible refine' d_lenL ?h ?_); (case h => walk_at "sd"))
  | ((with_reducible refine' d_lenD ?h ?_); (case h => walk_at "wk"))
  | ((with_reducible refine' d_slLF ?h ?_); (case h => walk_at "sd"))
  | ((with_reducible refine' ws_aug ?h ?_); (case h => rfl))
  | with_reducible refine' d_ip ?_
  | ((with_reducible refine' d_ixL ?h1 ?h2 ?_); (case h1 => walk_at "sd"); (case h2 => rfl))
  | ((with_reducible refine' d_ixT ?h2 ?_); (case h2 => rfl))
  | ((with_reducible refine' d_ixAL ?h1 ?h2 ?_); (case h1 => walk_at "sd"); (case h2 => rfl))
  | ((with_reducible refine' d_ixAT ?h2 ?_); (case h2 => rfl))
  | ((with_reducible refine' d_lenStr ?h ?_); (case h => walk_at "msm"))
  | ((with_reducible refine' d_slS ?h ?_); (case h => walk_at "msm"))
  | ((with_reducible refine' d_sz ?h ?_); (case h => walk_at "msm"))
  | ((with_reducible refine' d_catF ?h1 ?h2 ?h3 ?_); (case h1 => walk_at "cd"); (case h2 => walk_at "cd"); (case h3 => walk_at "msm"))
  | ((with_reducible refine' d_catQF ?h1 ?h2 ?h3 ?_); (case h1 => walk_at "sd"); (case h2 => walk_at "sd"); (case h3 => walk_at "msm"))
  | ((with_reducible refine' d_app ?h ?hl ?_); (case h => walk_at "wk"); (case hl => walk_at "msm"))
  | ((with_reducible refine' d_ext ?h ?h2 ?hl ?_); (case h => walk_at "wk"); (case h2 => walk_at "cd"); (case hl => walk_at "msm"))
  | ((with_reducible refine' d_clr ?h ?_); (case h => walk_at "wk"))
  | ((with_reducible refine' d_rev ?h ?_); (case h => walk_at "wk"))
  | ((with_reducible refine' d_listF ?h ?_); (case h => walk_at "sd"))
  | with_reducible refine' d_listTF ?_
  | ((with_reducible refine' we_lcLF ?ow ?_); (case ow => walk_at "own"))
  | with_reducible refine' wt_yes ?_
  | with_reducible rw [ws_ws])
local macro_rules | `(tactic| walk_at "mgo") => `(tactic| (repeat (first | walk_at "mst" | walk_at "callm" | with_reducible refine' we_call ?_)))
local macro_rules | `(tactic| walk_at "mgoN") => `(tactic| (repeat (first | walk_at "mst" | walk_at "callm" | with_reducible refine' we_call ?_ | ((with_reducible show ∀ p, _ = none → _); intro p hp; refine fz_id ?_))))
local macro_rules | `(tactic| walk_at "keep") => `(tactic| (intro p hp; refine fz_id ?_; walk_at "mgo"))
local macro_rules | `(tactic| walk_at "dat") => `(tactic| (intro p hp; refine fz_new hp ?_; clear hp; try clear p; walk_at "mgo"))
local macro_rules | `(tactic| walk_at "mkp") => `(tactic| first | with_reducible refine' mk_Let ?_ | with_reducible refine' mk_Reckon ?_ | with_reducible refine' mk_Take ?_ | with_reducible refine' mk_Put ?_ | with_reducible refine' mk_If ?_ | with_reducible refine' mk_Either ?_ | with_reducible refine' mk_Try ?_ | with_reducible refine' mk_Throw ?_ | with_reducible refine' mk_Wait ?_ | with_reducible refine' ex_si ?_ | with_reducible refine' ex_ss ?_ | with_reducible refine' ex_ssss ?_)
def niceD : Nat → D → Bool
  | 0, _ => false
  | _ + 1, .raw (.int _) => true
  | _ + 1, .raw (.str _) => true
  | n + 1, .lst ds => decide (ds.length ≤ 100000) && ds.all (niceD n)
  | n + 1, .tup ds => decide (ds.length ≤ 100000) && ds.all (niceD n)
  | _ + 1, _ => false
def pN_l_alike (n : Nat) (d : Ad) : PF := fun ds W Q => ∃ (x y : D), ds = [x, y] ∧ ∃ z, AtD W x z ∧ AtD W y z ∧ niceD n z = true ∧ Q (.bl true) W
abbrev spN_l_alike (n : Nat) (d : Ad) : Sp := lift d.K (pN_l_alike n d)
abbrev sp_l_alike (d : Ad) : Sp := spN_l_alike 8 d
theorem no_l_alike {d : Ad} {vs : List V} {H : Hp} {Q : VK} {E : XK} (h : spN_l_alike 0 d vs H Q E) : False := by
  obtain ⟨_, _, _, _, _, _, ⟨x, y, _, z, _, _, h, _⟩, _⟩ := h
  cases h
abbrev N_l_alike : List Str := ["_law_found", "_law_due", "_law_k"]
def t_l_alike (n : Nat) (d : Ad) : TS :=
  (tSeq (tIfS (tB (tCB (rIsi d.K) (tCons (tVar 1) (tCons (tC (.ty "int")) tNil)))) (tRet (tAndV (tCB (rIsi d.K) (tCons (tVar 0) (tCons (tC (.ty "int")) tNil))) (tAndV (tNotV (tCB (rIsi d.K) (tCons (tVar 0) (tCons (tC (.ty "bool")) tNil)))) (tOp rEq (tVar 0) (tVar 1))))) tNext)
  (tSeq (tIfS (tB (tCB (rIsi d.K) (tCons (tVar 1) (tCons (tC (.ty "str")) tNil)))) (tRet (tAndV (tCB (rIsi d.K) (tCons (tVar 0) (tCons (tC (.ty "str")) tNil))) (tOp rEq (tVar 0) (tVar 1)))) tNext)
  (tSeq (tIfS (tB (tCB (rIsi d.K) (tCons (tVar 1) (tCons (tC (.ty "tuple")) tNil)))) (tIfS (tNot (tB (tCB (rIsi d.K) (tCons (tVar 0) (tCons (tC (.ty "tuple")) tNil))))) (tRet (tC (.bl false))) tNext) (tIfS (tNot (tB (tCB (rIsi d.K) (tCons (tVar 0) (tCons (tC (.ty "list")) tNil))))) (tRet (tC (.bl false))) tNext))
  (tSeq (tIfS (tTest (tOp rNe (tCB (Evl.rLenS d.K) (tCons (tVar 0) tNil)) (tCB (Evl.rLenS d.K) (tCons (tVar 1) tNil)))) (tRet (tC (.bl false))) tNext)
  (tSeq (tFor (iRng1 (tCons (tCB (Evl.rLenS d.K) (tCons (tVar 1) tNil)) tNil)) (gName 2) (tIfS (tNot (tB (tCall (spN_l_alike n d) [] E0 (tCons (tOp (rIx d.K) (tVar 0) (tVar 2)) (tCons (tOp (rIx d.K) (tVar 1) (tVar 2)) tNil))))) (tRet (tC (.bl false))) tNext))
  (tRet (tC (.bl true))))))))
local macro_rules | `(tactic| walk_at "callm") => `(tactic| fail)
section
variable {n : Nat} {d : Ad} {vs : List V} {H : Hp} {Q : VK} {E : XK} {W : Wd} {x y : D} {ds : List D}
theorem AtD.seq (h : AtD W x (.lst ds)) : SeqD W x ds := by
  cases h with
  | id => exact .lst _
  | own h => exact .own h
theorem AtD.tup (h : AtD W x (.tup ds)) : x = .tup ds := by cases h; rfl
theorem AtD.raw {v : V} (h : AtD W x (.raw v)) : x = .raw v := by cases h; rfl
theorem m_alike {Q : KD} {z : D} (h1 : AtD W x z) (h2 : AtD W y z) (h3 : niceD n z = true) (q : Q (.bl true) W) : pN_l_alike n d [x, y] W Q := ⟨x, y, rfl, z, h1, h2, h3, q⟩
theorem pure_l_alike (h : spN_l_alike (n + 1) d vs H Q E) : t_l_alike n d { nx := fun _ H' => Q .non H', rt := Q } (start N_l_alike vs) H := by
  refine lift_pure h fun ds W Q hp => ?_
  obtain ⟨x, y, rfl, z, h1, h2, h3, k⟩ := hp
  show WS d.K (t_l_alike n d) [some x, some y, none] W _
  unfold t_l_alike
  cases z with
  | scr => cases h3
  | obj => cases h3
  | raw v =>
    cases h1.raw; cases h2.raw
    cases v with
    | int i =>
      walk_at "mgo"
      rw [dB_t rfl]
      exact ret_dat (Sub.refl _) k
    | str i =>
      walk_at "mgo"
      rw [dB_t rfl]
      exact ret_dat (Sub.refl _) k
    | _ => cases h3
  | lst ds =>
    obtain ⟨h3, h4⟩ := Bool.and_eq_true_iff.mp h3
    have h3 := of_decide_eq_true h3
    have g1 := h1.seq
    have g2 := h2.seq
    walk_at "mgo"
    refine w_ff (nB_f rfl) ?_
    walk_at "mgo"
    refine ⟨fun i e W' => e = [some x, some y, none] ∧ W' = W, nx_id ⟨rfl, rfl⟩, fun _ _ _ _ _ => trivial, ?_, ?_⟩
    · rintro i u e' W' hi hu ⟨rfl, rfl⟩
      cases hu
      have hi : i < ds.length := by simpa [itR] using hi
      have hx := List.getElem?_eq_getElem hi
      have hx0 : atI ds (0 + (i : Nat) * 1) = some ds[i] := by rw [Int.mul_one, Int.zero_add]; exact atI_nat hx
      walk_at "mgo"
      refine d_ixAL g1 hx0 ?_
      walk_at "mgo"
      refine d_ixAL g2 hx0 ?_
      walk_at "mgo"
      refine m_alike (.id _) (.id _) (List.all_eq_true.mp h4 _ (List.mem_of_getElem? hx)) ?_
      walk_at "mgo"
      exact nx_le (by walk_at "le") ⟨rfl, rfl⟩
    · rintro e' W' ⟨rfl, rfl⟩
      walk_at "mgo"
      exact ret_dat (Sub.refl _) k
  | tup ds =>
    obtain ⟨h3, h4⟩ := Bool.and_eq_true_iff.mp h3
    have h3 := of_decide_eq_true h3
    cases h1.tup
    cases h2.tup
    walk_at "mgo"
    refine w_ff (nB_f rfl) ?_
    walk_at "mgo"
    refine ⟨fun i e W' => e = [some (.tup ds), some (.tup ds), none] ∧ W' = W, nx_id ⟨rfl, rfl⟩, fun _ _ _ _ _ => trivial, ?_, ?_⟩
    · rintro i u e' W' hi hu ⟨rfl, rfl⟩
      cases hu
      have hi : i < ds.length := by simpa [itR] using hi
      have hx := List.getElem?_eq_getElem hi
      have hx0 : atI ds (0 + (i : Nat) * 1) = some ds[i] := by rw [Int.mul_one, Int.zero_add]; exact atI_nat hx
      walk_at "mgo"
      refine d_ixAT hx0 ?_
      walk_at "mgo"
      refine d_ixAT hx0 ?_
      walk_at "mgo"
      refine m_alike (.id _) (.id _) (List.all_eq_true.mp h4 _ (List.mem_of_getElem? hx)) ?_
      walk_at "mgo"
      exact nx_le (by walk_at "le") ⟨rfl, rfl⟩
    · rintro e' W' ⟨rfl, rfl⟩
      walk_at "mgo"
      exact ret_dat (Sub.refl _) k
end
end RT

set_option Elab.async false
set_option linter.all false
set_option maxRecDepth 100000
set_option maxHeartbeats 1000000
set_option autoImplicit false
namespace RT
open PySem L2
def sc1 : V → Bool
  | .str _ => true
  | .int _ => true
  | _ => false
def okR (r : List V) : Prop := r.length ≤ 20 ∧ ∀ v ∈ r, sc1 v = true
theorem okR_plain (p : Pt) : okR (plainRow p) := by
  cases p <;> refine ⟨by simp [plainRow], fun v hv => ?_⟩ <;> simp only [plainRow, List.mem_cons, List.not_mem_nil, or_false] at hv <;> rcases hv with rfl | rfl | rfl | rfl <;> rfl
theorem okR_two {hd : List V} {one : Rows} {f : Nat} {o : Nat → Rows} (h : hd.length ≤ 10 ∧ ∀ v ∈ hd, sc1 v = true) (h1 : ∀ r ∈ one, okR r) (h2 : ∀ t, ∀ r ∈ o t, okR r) : ∀ r ∈ twoM hd one f o, okR r := by
  intro r hr
  unfold twoM at hr
  simp only [List.mem_append, List.mem_singleton] at hr
  rcases hr with ((rfl | hr) | rfl) | hr
  · refine ⟨by rw [List.length_append, List.length_singleton]; omega, fun v hv => ?_⟩
    rcases List.mem_append.mp hv with hv | hv
    · exact h.2 v hv
    · rw [List.mem_singleton.mp hv]; rfl
  · exact h1 r hr
  · refine ⟨by simp, fun v hv => ?_⟩
    simp only [List.mem_cons, List.not_mem_nil, or_false] at hv
    rcases hv with rfl | rfl <;> rfl
  · exact h2 _ r hr
theorem sc_list {l : List V} (h : (l.all sc1) = true) : ∀ v ∈ l, sc1 v = true := List.all_eq_true.mp h
mutual
theorem okR_part : ∀ (p : Pt) (f : Nat), ∀ r ∈ partRows p f, okR r
  | .iff s ps os, f => by
    rw [partRows]
    exact okR_two ⟨by simp, sc_list rfl⟩ (okR_from ps _) (fun t => okR_from os t)
  | .eith ps os, f => by
    rw [partRows]
    refine okR_two ⟨by simp, sc_list rfl⟩ (fun r hr => ?_) (fun t => okR_from os t)
    rcases List.mem_append.mp hr with hr | hr
    · exact okR_from ps _ r hr
    · rw [List.mem_singleton.mp hr]; exact ⟨by simp, sc_list rfl⟩
  | .tryy ps n s os, f => by
    rw [partRows]
    refine okR_two ⟨by simp, sc_list rfl⟩ (fun r hr => ?_) (fun t => okR_from os t)
    rcases List.mem_append.mp hr with hr | hr
    · exact okR_from ps _ r hr
    · rw [List.mem_singleton.mp hr]; exact ⟨by simp, sc_list rfl⟩
  | .let_ s n, _ => fun r hr => by rw [partRows] at hr; rw [List.mem_singleton.mp hr]; exact okR_plain _
  | .rk w s o t, _ => fun r hr => by rw [partRows] at hr; rw [List.mem_singleton.mp hr]; exact okR_plain _
  | .take s p, _ => fun r hr => by rw [partRows] at hr; rw [List.mem_singleton.mp hr]; exact okR_plain _
  | .put p s, _ => fun r hr => by rw [partRows] at hr; rw [List.mem_singleton.mp hr]; exact okR_plain _
  | .throw n s, _ => fun r hr => by rw [partRows] at hr; rw [List.mem_singleton.mp hr]; exact okR_plain _
  | .wait, _ => fun r hr => by rw [partRows] at hr; rw [List.mem_singleton.mp hr]; exact okR_plain _
theorem okR_from : ∀ (ps : List Pt) (f : Nat), ∀ r ∈ rowsFrom ps f, okR r
  | [], _ => fun r hr => by rw [rowsFrom] at hr; cases hr
  | p :: q, f => fun r hr => by
    rw [rowsFrom] at hr
    rcases List.mem_append.mp hr with hr | hr
    · exact okR_part p _ r hr
    · exact okR_from q _ r hr
end
theorem nice_vs {r : List V} (h : ∀ v ∈ r, sc1 v = true) (n : Nat) : (r.map D.raw).all (niceD (n + 1)) = true := by
  rw [List.all_map]
  refine List.all_eq_true.mpr fun v hv => ?_
  have := h v hv
  cases v <;> first | rfl | cases this
theorem nice_row {r : List V} (o : okR r) (n : Nat) : niceD (n + 2) (rwD r) = true := by
  unfold niceD
  rw [List.length_map, decide_eq_true (by have := o.1; omega), nice_vs o.2 n]
  rfl
theorem nice_rows {rs : Rows} (o : ∀ r ∈ rs, okR r) (h : rs.length ≤ 100000) : niceD 8 (.lst (rowsL rs)) = true := by
  unfold niceD
  rw [List.length_map, decide_eq_true h, List.all_map]
  exact List.all_eq_true.mpr fun r hr => nice_row (o r hr) 5
def isPlain : Pt → Bool
  | .iff .. | .eith .. | .tryy .. => false
  | _ => true
theorem plain_rows {p : Pt} (h : isPlain p = true) (f : Nat) : partRows p f = [plainRow p] := by cases p <;> first | rfl | cases h
theorem plain_nd {p : Pt} (h : isPlain p = true) : ndP p = 1 := by cases p <;> first | rfl | cases h
theorem plain_len {p : Pt} (h : isPlain p = true) : lenP p = 1 := by cases p <;> first | rfl | cases h
theorem plains_rows : ∀ {ps : List Pt} (_ : ∀ p ∈ ps, isPlain p = true) (f : Nat), rowsFrom ps f = ps.map plainRow
  | [], _, _ => rfl
  | p :: r, h, f => by
    rw [rowsFrom, plain_rows (h p (by simp)), plains_rows (fun q hq => h q (List.mem_cons_of_mem _ hq))]
    rfl
theorem plains_nd : ∀ {ps : List Pt} (_ : ∀ p ∈ ps, isPlain p = true), ndPs ps ≤ 1
  | [], _ => by simp [ndPs]
  | p :: r, h => by
    have h2 := plains_nd (fun q hq => h q (List.mem_cons_of_mem p hq))
    rw [ndPs, plain_nd (h p (by simp))]; omega
theorem plains_len : ∀ {ps : List Pt} (_ : ∀ p ∈ ps, isPlain p = true), lenPs ps = ps.length
  | [], _ => rfl
  | p :: r, h => by
    rw [lenPs, plain_len (h p (by simp)), plains_len (fun q hq => h q (List.mem_cons_of_mem _ hq)), List.length_cons]; omega
theorem cutD_to {α : Type} (xs : List α) (k : Nat) : cutD xs none (some (k : Int)) = xs.take k := by
  unfold cutD
  rw [sIx_nat]
  show (xs.drop 0).take (min k xs.length - 0) = xs.take k
  rw [List.drop_zero, Nat.sub_zero]
  rcases Nat.le_total k xs.length with h | h
  · rw [Nat.min_eq_left h]
  · rw [Nat.min_eq_right h, List.take_of_length_le (Nat.le_refl _), List.take_of_length_le h]
theorem cutD_map {α β : Type} (f : α → β) (l : List α) (lo hi : Option Int) : cutD (l.map f) lo hi = (cutD l lo hi).map f := by
  unfold cutD
  rw [List.length_map, ← List.map_drop, ← List.map_take]
theorem cutD_len {α : Type} (l : List α) (a b : Nat) : (cutD l (some (a : Int)) (some (b : Int))).length = min b l.length - min a l.length := by
  unfold cutD
  rw [sIx_nat, sIx_nat, List.length_take, List.length_drop]
  omega
theorem okR_app {a b : Rows} (h : ∀ r ∈ a, okR r) (k : ∀ r ∈ b, okR r) : ∀ r ∈ a ++ b, okR r := fun r hr => by
  rcases List.mem_append.mp hr with hr | hr
  · exact h r hr
  · exact k r hr
theorem okR_one {r : List V} (h : okR r) : ∀ q ∈ [r], okR q := fun q hq => by rw [List.mem_singleton.mp hq]; exact h
theorem ndPs_app (a b : List Pt) : ndPs (a ++ b) = max (ndPs a) (ndPs b) := by
  induction a with
  | nil => simp [ndPs]
  | cons p r ih => rw [List.cons_append, ndPs, ndPs, ih, Nat.max_assoc]
theorem okR_lay : okR [V.str "lay"] := ⟨by simp, sc_list rfl⟩
end RT

set_option Elab.async false
set_option linter.all false
set_option maxRecDepth 100000
set_option maxHeartbeats 1000000
set_option autoImplicit false
namespace RT
open PySem L2
local macro_rules | `(tactic| walk_at "putf") => `(tactic| first | exact putF_nil | exact putF_hit | exact putF_miss (by decide) (by walk_at "putf"))
local macro_rules | `(tactic| walk_at "ne") => `(tactic| first | assumption | exact Ne.symm (by assumption) | ((refine' ne2 ?h1 ?h2); (case h1 => assumption); (case h2 => walk_at "hk")) | ((refine' ne2s ?h1 ?h2); (case h1 => assumption); (case h2 => walk_at "hk")) | exact ne_head (by assumption) | exact ne_of (by assumption) (by assumption) (by intro z; cases z))
local macro_rules | `(tactic| walk_at "hk") => `(tactic| first | assumption | with_reducible exact upd_same | ((with_reducible refine' up_ne ?h1 ?h2); (case h1 => walk_at "ne"); (case h2 => walk_at "hk")) | ((with_reducible refine' ex_at ?h1 ?h2); (case h1 => assumption); (case h2 => walk_at "hk")))
local macro_rules | `(tactic| walk_at "kit") => `(tactic| first | exact kit_int_int | exact kit_int_bool | exact kit_int_str | exact kit_int_list | exact kit_int_tuple | exact kit_int_dict | exact kit_bool_int | exact kit_bool_bool | exact kit_bool_str | exact kit_bool_list | exact kit_bool_tuple | exact kit_bool_dict | exact kit_str_int | exact kit_str_bool | exact kit_str_str | exact kit_str_list | exact kit_str_tuple | exact kit_str_dict | exact kit_NoneType_int | exact kit_NoneType_bool | exact kit_NoneType_str | exact kit_NoneType_list | exact kit_NoneType_tuple | exact kit_NoneType_dict | exact kit_list_int | exact kit_list_bool | exact kit_list_str | exact kit_list_list | exact kit_list_tuple | exact kit_list_dict | exact kit_tuple_int | exact kit_tuple_bool | exact kit_tuple_str | exact kit_tuple_list | exact kit_tuple_tuple | exact kit_tuple_dict | exact kit_dict_int | exact kit_dict_bool | exact kit_dict_str | exact kit_dict_list | exact kit_dict_tuple | exact kit_dict_dict)
local macro_rules | `(tactic| walk_at "sq") => `(tactic| first | assumption | ((with_reducible refine' SqL.of ?h); (case h => walk_at "hk")) | ((with_reducible refine' ex_sq ?h1 ?h2); (case h1 => assumption); (case h2 => walk_at "sq")))
local macro_rules | `(tactic| walk_at "st") => `(tactic| first | assumption | ((with_reducible refine' SqT.of ?h); (case h => walk_at "hk")) | ((with_reducible refine' ex_st ?h1 ?h2); (case h1 => assumption); (case h2 => walk_at "st")))
local macro_rules | `(tactic| walk_at "new") => `(tactic| (intro p hp; generalize hU : upd _ p _ = H'; have e1 := new_ex hp hU; have e2 := new_at hU; clear hU))
local macro_rules | `(tactic| walk_at "set") => `(tactic| ((try simp only [List.set_cons_succ, List.set_cons_zero]); rfl))
local macro_rules | `(tactic| walk_at "small") => `(tactic| first | assumption | (rw [sizeLine_eq]; (try simp only [List.length_cons, List.length_nil, str_len_app, sign_len]); omega) | (with_unfolding_all decide))
local macro_rules | `(tactic| walk_at "sc") => `(tactic| first | assumption | decide | omega | (unfold CMul; omega) | (unfold CDiv; omega) | (unfold CPow; decide) | (unfold CDiv; decide))
local macro_rules | `(tactic| walk_at "step") => `(tactic| first
  | with_reducible refine' w_seq ?_
  | with_reducible refine' w_op ?_
  | ((with_reducible refine' w_var ?h ?_); (case h => rfl))
  | with_reducible refine' w_c ?_
  | with_reducible refine' w_i0 ?_
  | with_reducible refine' w_cons ?_
  | with_reducible refine' w_nil ?_
  | with_reducible refine' w_asg ?_
  | ((with_reducible refine' w_gn ?e ?_); (case e => walk_at "set"))
  | with_reducible refine' w_ifS ?_
  | with_reducible refine' w_test ?_
  | with_reducible refine' w_tB ?_
  | with_reducible refine' w_bl ?_
  | with_reducible refine' w_int ?_
  | with_reducible refine' w_ref ?_
  | with_reducible refine' w_str ?_
  | with_reducible refine' w_eqI ?_
  | with_reducible refine' w_neI ?_
  | with_reducible refine' w_eqS ?_
  | with_reducible refine' w_neS ?_
  | with_reducible refine' w_ret ?_
  | with_reducible refine' w_for ?_
  | with_reducible refine' w_tFld ?_
  | ((with_reducible refine' w_fld ?h ?c ?n ?l ?_); (case h => walk_at "hk"); (case c => assumption); (case n => assumption); (case l => rfl))
  | with_reducible refine' w_sFld ?_
  | ((with_reducible refine' w_rsFld ?h ?c ?n ?l ?e ?_); (case h => walk_at "hk"); (case c => assumption); (case n => assumption); (case e => walk_at "putf"); (case l => (simp only [List.length_cons, List.length_nil]; omega)))
  | with_reducible refine' w_tDGet ?_
  | with_reducible refine' w_tDIn ?_
  | with_reducible refine' w_tDNotIn ?_
  | ((with_reducible refine' w_dinI ?h ?_); (case h => walk_at "hk"))
  | with_reducible refine' w_sDPut ?_
  | with_reducible refine' w_bm ?_
  | with_reducible refine' w_bm0 ?_
  | ((with_reducible refine' w_tyL ?h ?_); (case h => walk_at "sq"))
  | with_reducible refine' w_iRev ?_
  | ((with_reducible refine' w_rev1 ?h ?_); (case h => walk_at "sq"))
  | with_reducible refine' w_iItems ?_
  | with_reducible refine' w_iKeys ?_
  | with_reducible refine' w_iRng3 ?_
  | with_reducible refine' w_iZip ?_
  | with_reducible refine' w_gCons ?_
  | with_reducible refine' w_gNil ?_
  | ((with_reducible refine' w_gTup ?h ?l ?_); (case h => walk_at "st"); (case l => rfl))
  | with_reducible refine' w_m1 ?_
  | with_reducible refine' w_isS ?_
  | with_reducible refine' w_lc ?_
  | with_reducible refine' w_iList ?_
  | with_reducible refine' w_iTup ?_
  | with_reducible refine' w_iStr ?_
  | with_reducible refine' w_iRng1 ?_
  | with_reducible refine' w_iRng2 ?_
  | with_reducible refine' w_v1I ?_
  | with_reducible refine' w_v2I ?_
  | with_reducible refine' w_next ?_
  | with_reducible refine' w_call ?_
  | with_reducible refine' w_cb ?_
  | with_reducible refine' w_and ?_
  | with_reducible refine' w_or ?_
  | with_reducible refine' w_not ?_
  | with_reducible refine' w_andV ?_
  | with_reducible refine' w_orV ?_
  | with_reducible refine' w_notV ?_
  | with_reducible refine' w_ifE ?_
  | with_reducible refine' w_drop ?_
  | with_reducible refine' w_un ?_
  | with_reducible refine' w_u ?_
  | with_reducible refine' w_isNN ?_
  | with_reducible refine' w_isNI ?_
  | with_reducible refine' w_isNS ?_
  | with_reducible refine' w_isNR ?_
  | with_reducible refine' w_notNN ?_
  | with_reducible refine' w_notNI ?_
  | with_reducible refine' w_notNS ?_
  | with_reducible refine' w_notNR ?_
  | with_reducible refine' w_int1 ?_
  | with_reducible refine' w_int1b ?_
  | with_reducible refine' w_tup ?_
  | with_reducible refine' w_lst ?_
  | with_reducible refine' w_dnew ?_
  | with_reducible refine' w_sl ?_
  | with_reducible refine' w_noPart ?_
  | with_reducible refine' w_part ?_
  | with_reducible refine' w_retN ?_
  | with_reducible refine' w_brk ?_
  | with_reducible refine' w_cont ?_
  | with_reducible refine' w_chain ?_
  | with_reducible refine' w_lt ?_
  | with_reducible refine' w_le ?_
  | with_reducible refine' w_gt ?_
  | with_reducible refine' w_ge ?_
  | with_reducible refine' w_ltS ?_
  | with_reducible refine' w_leS ?_
  | with_reducible refine' w_gtS ?_
  | with_reducible refine' w_geS ?_
  | ((with_reducible refine' w_addS ?h ?_); (case h => walk_at "small"))
  | with_reducible refine' w_inS ?_
  | with_reducible refine' w_ninS ?_
  | with_reducible refine' w_par ?_
  | with_reducible refine' w_v2 ?_
  | with_reducible refine' w_max2 ?_
  | with_reducible refine' w_min2 ?_
  | with_reducible refine' w_tru ?_
  | with_reducible refine' w_meth ?_
  | ((with_reducible refine' w_meth1 ?h ?l ?_); (case h => walk_at "hk"); (case l => rfl))
  | with_reducible refine' w_make ?_
  | ((with_reducible refine' w_isiI ?h ?_); (case h => walk_at "kit"))
  | ((with_reducible refine' w_isiB ?h ?_); (case h => walk_at "kit"))
  | ((with_reducible refine' w_isiN ?h ?_); (case h => walk_at "kit"))
  | ((with_reducible refine' w_isiS ?h ?_); (case h => walk_at "kit"))
  | ((with_reducible refine' w_isiSL ?h ?e ?_); (case h => walk_at "sq"); (case e => walk_at "kit"))
  | ((with_reducible refine' w_isiST ?h ?e ?_); (case h => walk_at "st"); (case e => walk_at "kit"))
  | ((with_reducible refine' w_i ?h ?_); (case h => walk_at "sc"))
  | with_reducible refine' w_ttL ?_
  | with_reducible refine' w_ffL ?_
  | ((with_reducible refine' w_tt ?h ?_); (case h => first | exact dB_t (by decide) | exact nB_t (by decide) | decide))
  | ((with_reducible refine' w_ff ?h ?_); (case h => first | exact dB_f (by decide) | exact nB_f (by decide) | decide))
  | ((with_reducible refine' w_lenS ?h ?_); (case h => walk_at "sq"))
  | ((with_reducible refine' w_lenT ?h ?_); (case h => walk_at "st"))
  | ((with_reducible refine' w_slL ?h ?_); (case h => walk_at "sq"))
  | ((with_reducible refine' w_aug ?h ?_); (case h => rfl))
  | with_reducible refine' w_ip ?_
  | ((with_reducible refine' w_cat ?h1 ?h2 ?h3 ?_); (case h1 => walk_at "hk"); (case h2 => walk_at "hk"); (case h3 => walk_at "small"))
  | ((with_reducible refine' w_ixL ?h1 ?h2 ?_); (case h1 => walk_at "sq"); (case h2 => rfl))
  | ((with_reducible refine' w_ixT ?h1 ?h2 ?_); (case h1 => walk_at "st"); (case h2 => rfl))
  | ((with_reducible refine' w_lenStr ?h ?_); (case h => walk_at "small"))
  | ((with_reducible refine' w_slS ?h ?_); (case h => walk_at "small"))
  | ((with_reducible refine' w_sz ?h ?_); (case h => walk_at "small")))
local macro_rules | `(tactic| walk_at "go") => `(tactic| (repeat (first | walk_at "step" | walk_at "callx")))
local macro_rules | `(tactic| walk_at "goN") => `(tactic| (repeat (first | walk_at "step" | walk_at "callx" | ((with_reducible show ∀ p, _ = none → _); walk_at "new"))))
local macro_rules | `(tactic| walk_at "len") => `(tactic| first
  | (obtain ⟨rfl, _⟩ := h; rfl) | (obtain ⟨_, rfl, _⟩ := h; rfl) | (obtain ⟨_, _, rfl, _⟩ := h; rfl) | (obtain ⟨_, _, _, rfl, _⟩ := h; rfl) | (obtain ⟨_, _, _, _, rfl, _⟩ := h; rfl)
  | (obtain ⟨_, _, _, _, _, rfl, _⟩ := h; rfl) | (obtain ⟨_, _, _, _, _, _, rfl, _⟩ := h; rfl) | (obtain ⟨_, _, _, _, _, _, _, rfl, _⟩ := h; rfl) | (obtain ⟨_, _, _, _, _, _, _, _, rfl, _⟩ := h; rfl)
  | (obtain ⟨_, _, _, _, _, _, _, _, _, rfl, _⟩ := h; rfl) | (obtain ⟨_, _, _, _, _, _, _, _, _, _, rfl, _⟩ := h; rfl))
local macro_rules | `(tactic| walk_at "dec") => `(tactic| (first | with_reducible apply w_dec | with_reducible apply w_ndec | with_reducible apply w_bool) <;> intro hc)
local macro_rules | `(tactic| walk_at "msm") => `(tactic| first | with_reducible assumption | (rw [sizeLine_eq]; (try simp only [List.length_cons, List.length_nil, List.length_append, List.length_map, List.length_set, str_len_app, sign_len]); omega))
local macro_rules | `(tactic| walk_at "wne") => `(tactic| first | with_reducible assumption | exact Ne.symm (by with_reducible assumption) | ((refine' ne_w2 ?h2 ?h1); (case h2 => with_reducible assumption); (case h1 => walk_at "wk")) | ((refine' ne_w2s ?h2 ?h1); (case h2 => with_reducible assumption); (case h1 => walk_at "wk")))
local macro_rules | `(tactic| walk_at "wk") => `(tactic| first | with_reducible assumption | with_reducible exact ws_same | ((with_reducible refine' ws_lk ?h1 ?h2); (case h1 => walk_at "wne"); (case h2 => walk_at "wk")) | ((with_reducible refine' we_lk ?h1 ?h2); (case h1 => walk_at "wne"); (case h2 => walk_at "wk")))
local macro_rules | `(tactic| walk_at "sd") => `(tactic| first | with_reducible assumption | with_reducible exact SeqD.lst _ | with_reducible exact SeqD.scr _ | ((with_reducible refine' SeqD.own ?h); (case h => walk_at "wk")) | ((with_reducible refine' SeqD.er ?m ?h); (case h => with_reducible assumption); (case m => walk_at "sub")))
local macro_rules | `(tactic| walk_at "cd") => `(tactic| first | with_reducible assumption | with_reducible exact CatD.lst _ | ((with_reducible refine' CatD.own ?h); (case h => walk_at "wk")))
local macro_rules | `(tactic| walk_at "dd") => `(tactic| first | with_reducible assumption | ((with_reducible refine' DctD.own ?h); (case h => walk_at "wk")) | ((with_reducible refine' DctD.lock ?h); (case h => walk_at "wk")))
local macro_rules | `(tactic| walk_at "le") => `(tactic| repeat (first | exact EnvLe.nil | exact EnvLe.refl _ | with_reducible refine' EnvLe.cons (.inl rfl) ?_ | with_reducible refine' EnvLe.cons (.inr rfl) ?_))
local macro_rules | `(tactic| walk_at "sub") => `(tactic| first | with_reducible assumption | exact Sub.refl _ | ((with_reducible refine' Sub.set ?h1); (case h1 => walk_at "sub")) | ((with_reducible refine' Sub.new ?h1 ?h2); (case h2 => walk_at "wn"); (case h1 => walk_at "sub")))
local macro_rules | `(tactic| walk_at "wn") => `(tactic| first | with_reducible assumption | ((with_reducible refine' ws_non ?h); (case h => with_reducible assumption)) | ((with_reducible refine' ws_non (ws_non ?h)); (case h => with_reducible assumption)) | ((with_reducible refine' ws_non (ws_non (ws_non ?h))); (case h => with_reducible assumption)))
local macro_rules | `(tactic| walk_at "own") => `(tactic| first | ((with_reducible refine' own_name ?h); (case h => decide)) | ((with_reducible refine' own_tup ?h); (case h => walk_at "own")) | ((with_reducible refine' own_cons ?h1 ?h2); (case h1 => walk_at "own"); (case h2 => walk_at "own")) | with_reducible exact own_nil)
local macro_rules | `(tactic| walk_at "mputf") => `(tactic| first | exact putD_nil | exact putD_hit | exact putD_miss (by decide) (by walk_at "mputf"))
local macro_rules | `(tactic| walk_at "mst") => `(tactic| first
  | with_reducible refine' ws_seq ?_
  | with_reducible refine' we_op ?_
  | ((with_reducible refine' we_var ?h ?_); (case h => rfl))
  | with_reducible refine' we_c ?_
  | with_reducible refine' d_i0 ?_
  | with_reducible refine' wa_cons ?_
  | with_reducible refine' wa_nil ?_
  | with_reducible refine' ws_asg ?_
  | ((with_reducible refine' wg_name ?e ?_); (case e => walk_at "set"))
  | with_reducible refine' ws_if ?_
  | with_reducible refine' we_test ?_
  | with_reducible refine' we_tB ?_
  | with_reducible refine' we_bl ?_
  | with_reducible refine' d_eqI ?_
  | with_reducible refine' d_neI ?_
  | with_reducible refine' d_eqS ?_
  | with_reducible refine' d_neS ?_
  | with_reducible refine' ws_ret ?_
  | with_reducible refine' ws_for ?_
  | with_reducible refine' we_fld ?_
  | ((with_reducible refine' d_fldW ?h ?c ?n ?l ?_); (case h => walk_at "wk"); (case c => assumption); (case n => assumption); (case l => rfl))
  | ((with_reducible refine' d_fldO ?c ?n ?l ?_); (case c => assumption); (case n => assumption); (case l => rfl))
  | with_reducible refine' ws_fld ?_
  | ((with_reducible refine' d_sfld ?h ?c ?n ?l ?he ?_); (case h => walk_at "wk"); (case c => assumption); (case n => assumption); (case he => walk_at "mputf"); (case l => (simp only [List.length_cons, List.length_nil]; omega)))
  | with_reducible refine' we_dget ?_
  | with_reducible refine' we_din ?_
  | with_reducible refine' we_dnotin ?_
  | ((with_reducible refine' d_dinI ?h ?_); (case h => walk_at "dd"))
  | ((with_reducible refine' d_dinS ?h ?_); (case h => walk_at "dd"))
  | with_reducible refine' ws_dput ?_
  | with_reducible refine' we_dnew ?_
  | with_reducible refine' we_bm ?_
  | with_reducible refine' we_bm0 ?_
  | ((with_reducible refine' d_seq ?h ?_); (case h => walk_at "sd"))
  | with_reducible refine' wi_list ?_
  | ((with_reducible refine' d_sq ?h ?_); (case h => walk_at "sd"))
  | with_reducible refine' wi_tup ?_
  | with_reducible refine' d_tp ?_
  | with_reducible refine' wi_str ?_
  | with_reducible refine' d_st ?_
  | with_reducible refine' wi_rng1 ?_
  | ((with_reducible refine' d_r1 ?h ?_); (case h => omega))
  | with_reducible refine' wi_rng2 ?_
  | ((with_reducible refine' d_r2 ?h ?_); (case h => omega))
  | with_reducible refine' wi_rng3 ?_
  | with_reducible refine' wi_enum ?_
  | with_reducible refine' wi_rev ?_
  | ((with_reducible refine' d_one ?h ?_); (case h => walk_at "sd"))
  | with_reducible refine' wi_zip ?_
  | ((with_reducible refine' d_two ?h ?h2 ?_); (case h => walk_at "sd"); (case h2 => walk_at "sd"))
  | with_reducible refine' wg_tupL ?_
  | with_reducible refine' wgs_cons ?_
  | with_reducible refine' wgs_nil ?_
  | with_reducible refine' we_m1 ?_
  | with_reducible refine' d_isS ?_
  | with_reducible refine' ws_next ?_
  | with_reducible refine' we_cb ?_
  | with_reducible refine' we_and ?_
  | with_reducible refine' we_or ?_
  | with_reducible refine' we_not ?_
  | with_reducible refine' we_andV ?_
  | with_reducible refine' we_orV ?_
  | with_reducible refine' we_notV ?_
  | with_reducible refine' we_if ?_
  | with_reducible refine' ws_drop ?_
  | with_reducible refine' we_un ?_
  | with_reducible refine' d_u ?_
  | with_reducible refine' d_isNN ?_
  | with_reducible refine' d_isNI ?_
  | with_reducible refine' d_isNS ?_
  | with_reducible refine' d_isNR ?_
  | with_reducible refine' d_notNN ?_
  | with_reducible refine' d_notNI ?_
  | with_reducible refine' d_notNS ?_
  | with_reducible refine' d_notNR ?_
  | with_reducible refine' d_int1 ?_
  | with_reducible refine' d_int1b ?_
  | with_reducible refine' we_tup ?_
  | with_reducible refine' we_lstF ?_
  | with_reducible refine' we_sl ?_
  | with_reducible refine' wo_no ?_
  | with_reducible refine' wo_part ?_
  | with_reducible refine' wo_i ?_
  | with_reducible refine' ws_retN ?_
  | with_reducible refine' ws_brk ?_
  | with_reducible refine' ws_cont ?_
  | with_reducible refine' we_chain ?_
  | with_reducible refine' d_lt ?_
  | with_reducible refine' d_le ?_
  | with_reducible refine' d_gt ?_
  | with_reducible refine' d_ge ?_
  | with_reducible refine' d_ltS ?_
  | with_reducible refine' d_leS ?_
  | with_reducible refine' d_gtS ?_
  | with_reducible refine' d_geS ?_
  | ((with_reducible refine' d_addS ?h ?_); (case h => walk_at "msm"))
  | with_reducible refine' d_inS ?_
  | with_reducible refine' d_ninS ?_
  | with_reducible refine' ws_par ?_
  | with_reducible refine' d_v2 ?_
  | with_reducible refine' d_max2 ?_
  | with_reducible refine' d_min2 ?_
  | with_reducible refine' we_meth ?_
  | ((with_reducible refine' d_meth ?h ?l ?_); (case h => walk_at "wk"); (case l => rfl))
  | ((with_reducible refine' d_isiI ?h ?_); (case h => walk_at "kit"))
  | ((with_reducible refine' d_isiB ?h ?_); (case h => walk_at "kit"))
  | ((with_reducible refine' d_isiN ?h ?_); (case h => walk_at "kit"))
  | ((with_reducible refine' d_isiS ?h ?_); (case h => walk_at "kit"))
  | ((with_reducible refine' d_isiT ?h ?_); (case h => walk_at "kit"))
  | ((with_reducible refine' d_isiL ?h ?hk ?_); (case h => walk_at "sd"); (case hk => walk_at "kit"))
  | ((with_reducible refine' d_i ?h ?_); (case h => walk_at "sc"))
  | with_reducible refine' w_ttL ?_
  | with_reducible refine' w_ffL ?_
  | ((with_reducible refine' w_tt ?h ?_); (case h => first | exact dB_t (by decide) | exact nB_t (by decide) | decide))
  | ((with_reducible refine' w_ff ?h ?_); (case h => first | exact dB_f (by decide) | exact nB_f (by decide) | decide))
  | with_reducible refine' d_lenT ?_
  | ((with_reducible refine' d_lenL ?h ?_); (case h => walk_at "sd"))
  | ((with_reducible refine' d_lenD ?h ?_); (case h => walk_at "wk"))
  | ((with_reducible refine' d_slLF ?h ?_); (case h => walk_at "sd"))
  | ((with_reducible refine' ws_aug ?h ?_); (case h => rfl))
  | with_reducible refine' d_ip ?_
  | ((with_reducible refine' d_ixL ?h1 ?h2 ?_); (case h1 => walk_at "sd"); (case h2 => rfl))
  | ((with_reducible refine' d_ixT ?h2 ?_); (case h2 => rfl))
  | ((with_reducible refine' d_ixAL ?h1 ?h2 ?_); (case h1 => walk_at "sd"); (case h2 => rfl))
  | ((with_reducible refine' d_ixAT ?h2 ?_); (case h2 => rfl))
  | ((with_reducible refine' d_lenStr ?h ?_); (case h => walk_at "msm"))
  | ((with_reducible refine' d_slS ?h ?_); (case h => walk_at "msm"))
  | ((with_reducible refine' d_sz ?h ?_); (case h => walk_at "msm"))
  | ((with_reducible refine' d_catF ?h1 ?h2 ?h3 ?_); (case h1 => walk_at "cd"); (case h2 => walk_at "cd"); (case h3 => walk_at "msm"))
  | ((with_reducible refine' d_catQF ?h1 ?h2 ?h3 ?_); (case h1 => walk_at "sd"); (case h2 => walk_at "sd"); (case h3 => walk_at "msm"))
  | ((with_reducible refine' d_app ?h ?hl ?_); (case h => walk_at "wk"); (case hl => walk_at "msm"))
  | ((with_reducible refine' d_ext ?h ?h2 ?hl ?_); (case h => walk_at "wk"); (case h2 => walk_at "cd"); (case hl => walk_at "msm"))
  | ((with_reducible refine' d_clr ?h ?_); (case h => walk_at "wk"))
  | ((with_reducible refine' d_rev ?h ?_); (case h => walk_at "wk"))
  | ((with_reducible refine' d_listF ?h ?_); (case h => walk_at "sd"))
  | with_reducible refine' d_listTF ?_
  | ((with_reducible refine' we_lcLF ?ow ?_); (case ow => walk_at "own"))
  | with_reducible refine' wt_yes ?_
  | with_reducible rw [ws_ws])
local macro_rules | `(tactic| walk_at "mgo") => `(tactic| (repeat (first | walk_at "mst" | walk_at "callm" | with_reducible refine' we_call ?_)))
local macro_rules | `(tactic| walk_at "mgoN") => `(tactic| (repeat (first | walk_at "mst" | walk_at "callm" | with_reducible refine' we_call ?_ | ((with_reducible show ∀ p, _ = none → _); intro p hp; refine fz_id ?_))))
local macro_rules | `(tactic| walk_at "keep") => `(tactic| (intro p hp; refine fz_id ?_; walk_at "mgo"))
local macro_rules | `(tactic| walk_at "dat") => `(tactic| (intro p hp; refine fz_new hp ?_; clear hp; try clear p; walk_at "mgo"))
local macro_rules | `(tactic| walk_at "mkp") => `(tactic| first | with_reducible refine' mk_Let ?_ | with_reducible refine' mk_Reckon ?_ | with_reducible refine' mk_Take ?_ | with_reducible refine' mk_Put ?_ | with_reducible refine' mk_If ?_ | with_reducible refine' mk_Either ?_ | with_reducible refine' mk_Try ?_ | with_reducible refine' mk_Throw ?_ | with_reducible refine' mk_Wait ?_ | with_reducible refine' ex_si ?_ | with_reducible refine' ex_ss ?_ | with_reducible refine' ex_ssss ?_)
def lt1 (n : Nat) : Str := ⟨#[n]⟩
def az : Str := "abcdefghijklmnopqrstuvwxyz"
def ah : Str := "abcdefgh"
theorem az_codes : az.cps.toList = (List.range 26).map (97 + ·) := by decide +kernel
theorem ah_codes : ah.cps.toList = (List.range 8).map (97 + ·) := by decide +kernel
theorem atI_codes {l : List Nat} {n : Nat} (e : l = (List.range n).map (97 + ·)) {i : Int} (h0 : 0 ≤ i) (h1 : i < n) : atI l i = some (97 + i.toNat) := by
  subst e
  have e2 : ((i.toNat : Nat) : Int) = i := by omega
  rw [← e2]
  refine atI_nat ?_
  rw [List.getElem?_map, List.getElem?_range (by omega), e2]
  rfl
section
variable {K : PySem.W.Frag} {W : Wd} {Q : KD}
theorem d_ixAZ {i : Int} (h0 : 0 ≤ i) (h1 : i < 26) (q : Q (.raw (.str (lt1 (97 + i.toNat)))) W) : RD K rIxS (.raw (.str "abcdefghijklmnopqrstuvwxyz")) (.raw (.int i)) W Q :=
  d_ixS (z := az) (by rw [sizeLine_eq]; decide +kernel) (atI_codes az_codes h0 h1) q
theorem d_ixAH {i : Int} (h0 : 0 ≤ i) (h1 : i < 8) (q : Q (.raw (.str (lt1 (97 + i.toNat)))) W) : RD K rIxS (.raw (.str "abcdefgh")) (.raw (.int i)) W Q :=
  d_ixS (z := ah) (by rw [sizeLine_eq]; decide +kernel) (atI_codes ah_codes h0 h1) q
end
def AZ (s : Str) : Prop := ∀ c ∈ s.cps.toList, 97 ≤ c ∧ c ≤ 122
structure NameOk (s : Str) : Prop where
  az : AZ s
  l1 : 1 ≤ s.length
  l8 : s.length ≤ 8
theorem AZ.nil : AZ ("" : Str) := fun c hc => by
  have e : ("" : Str).cps.toList = [] := by decide +kernel
  rw [e] at hc; cases hc
theorem AZ.app {s t : Str} (a : AZ s) (b : AZ t) : AZ (s ++ t) := fun c hc => by
  have e : (s ++ t).cps.toList = s.cps.toList ++ t.cps.toList := by show (s.cps ++ t.cps).toList = _; simp
  rw [e] at hc
  rcases List.mem_append.mp hc with h | h
  · exact a c h
  · exact b c h
theorem AZ.lt1 {n : Nat} (h : 97 ≤ n ∧ n ≤ 122) : AZ (lt1 n) := fun c hc => by
  have : c = n := by simpa [RT.lt1] using hc
  rw [this]; exact h
theorem lt1_len (n : Nat) : (lt1 n).length = 1 := rfl
theorem app_len (s t : Str) : (s ++ t).length = s.length + t.length := str_len_app s t
def p_l_cell_at (_ : Ad) : PF := fun ds W Q => ∃ (x : D) (ns : List Int) (k : Nat), ds = [x, .int k] ∧ SeqD W x (ns.map D.int) ∧ Q (.int (ns.getD k 0)) W
def p_l_mixed (_ : Ad) : PF := fun ds W Q => ∃ (c : Int), ds = [.int c] ∧ Q (.int (c * 48271 % 999999999989)) W
def p_l_wide (_ : Ad) : PF := fun ds W Q => ∃ (c : Int), ds = [.int c] ∧ Q (.int (c * 982451653 % 2 ^ Int.toNat 64)) W
def p_l_names (_ : Ad) : PF := fun ds W Q => ∃ (c : Int), ds = [.int c] ∧ ∀ q n0 n1 n2, W q = none → NameOk n0 → NameOk n1 → NameOk n2 → Q (.ptr q) (wset W q (.lst [.str n0, .str n1, .str n2]))
abbrev sp_l_cell_at (d : Ad) : Sp := lift d.K (p_l_cell_at d)
abbrev sp_l_mixed (d : Ad) : Sp := lift d.K (p_l_mixed d)
abbrev sp_l_wide (d : Ad) : Sp := lift d.K (p_l_wide d)
abbrev sp_l_names (d : Ad) : Sp := lift d.K (p_l_names d)
abbrev N_l_mixed : List Str := ["_law_cell"]
def t_l_mixed (d : Ad) : TS :=
  (tRet (aMod (aMul (tVar 0) (tC (.int 48271))) (tC (.int 999999999989))))
abbrev N_l_wide : List Str := ["_law_cell"]
def t_l_wide (d : Ad) : TS :=
  (tRet (aMod (aMul (tVar 0) (tC (.int 982451653))) (aPow (tC (.int 2)) (tC (.int 64)))))
abbrev N_l_names : List Str := ["_law_cell", "_law_letters", "_law_mixed_here", "_law_size", "_law_at", "_law_names_here", "_law_turn", "_law_name", "_law_k", "_law_sign"]
def t_l_names (d : Ad) : TS :=
  (tSeq (tAsg (tC (.str "abcdefghijklmnopqrstuvwxyz")) (gName 1))
  (tSeq (tAsg (tCall (sp_l_mixed d) [] E0 (tCons (tVar 0) tNil)) (gName 2))
  (tSeq (tAsg (aAdd (tC (.int 1)) (aMod (tVar 2) (tC (.int 8)))) (gName 3))
  (tSeq (tAsg (aMod (aDiv (tVar 2) (tC (.int 8))) (tVar 3)) (gName 4))
  (tSeq (tAsg (tLst tNil) (gName 5))
  (tSeq (tFor (iRng1 (tCons (tC (.int 3)) tNil)) (gName 6) (tSeq (tAsg (tC (.str "")) (gName 7))
  (tSeq (tFor (iRng1 (tCons (tVar 3) tNil)) (gName 8) (tSeq (tAsg (aAdd (aDiv (aDiv (tVar 2) (tC (.int 64))) (aAdd (aMul (tVar 8) (tVar 8)) (tC (.int 1)))) (tVar 8)) (gName 9))
  (tSeq (tIfS (tTest (tOp rEq (tVar 8) (tVar 4))) (tAsg (aAdd (tVar 9) (tVar 6)) (gName 9)) tNext)
  (tAsg (aAddS (tVar 7) (tOp rIxS (tVar 1) (aMod (tVar 9) (tC (.int 26))))) (gName 7)))))
  (tDrop (tBM d.K "list" rAppend (tVar 5) (tCons (tVar 7) tNil))))))
  (tRet (tVar 5))))))))
abbrev N_l_cell_at : List Str := ["_law_script", "_law_k"]
def t_l_cell_at (d : Ad) : TS :=
  (tSeq (tIfS (tTest (tOp rLt (tVar 1) (tCB (Evl.rLenS d.K) (tCons (tVar 0) tNil)))) (tRet (tOp (rIxL d.K) (tVar 0) (tVar 1))) tNext)
  (tRet (tC (.int 0))))
local macro_rules | `(tactic| walk_at "callm") => `(tactic| fail)
section
variable {d : Ad} {vs : List V} {H : Hp} {Q : VK} {E : XK}
theorem pure_l_cell_at (h : sp_l_cell_at d vs H Q E) : t_l_cell_at d { nx := fun _ H' => Q .non H', rt := Q } (start N_l_cell_at vs) H := by
  refine lift_pure h fun ds W Q hp => ?_
  obtain ⟨x, ns, i, rfl, hS, k⟩ := hp
  show WS d.K (t_l_cell_at d) [some x, some (.raw (.int i))] W _
  unfold t_l_cell_at
  walk_at "mgo"
  rw [List.length_map]
  walk_at "dec"
  · rename_i hc
    walk_at "mgo"
    have hx : (ns.map D.int)[i]? = some (.int (ns.getD i 0)) := by
      rw [List.getElem?_map, List.getD_eq_getElem?_getD, List.getElem?_eq_getElem (by omega)]; rfl
    refine d_ixL hS (atI_nat hx) ?_
    exact ret_dat (Sub.refl _) k
  · rename_i hc
    walk_at "mgo"
    rw [List.getD_eq_getElem?_getD, List.getElem?_eq_none (by omega)] at k
    exact ret_dat (Sub.refl _) k
theorem pure_l_mixed (h : sp_l_mixed d vs H Q E) : t_l_mixed d { nx := fun _ H' => Q .non H', rt := Q } (start N_l_mixed vs) H := by
  refine lift_pure h fun ds W Q hp => ?_
  obtain ⟨c, rfl, k⟩ := hp
  show WS d.K (t_l_mixed d) [some (.raw (.int c))] W _
  unfold t_l_mixed
  walk_at "mgo"
  exact ret_dat (Sub.refl _) k
theorem pure_l_wide (h : sp_l_wide d vs H Q E) : t_l_wide d { nx := fun _ H' => Q .non H', rt := Q } (start N_l_wide vs) H := by
  refine lift_pure h fun ds W Q hp => ?_
  obtain ⟨c, rfl, k⟩ := hp
  show WS d.K (t_l_wide d) [some (.raw (.int c))] W _
  unfold t_l_wide
  walk_at "mgo"
  exact ret_dat (Sub.refl _) k
theorem pure_l_names (h : sp_l_names d vs H Q E) : t_l_names d { nx := fun _ H' => Q .non H', rt := Q } (start N_l_names vs) H := by
  refine lift_pure h fun ds W Q hp => ?_
  obtain ⟨c, rfl, k⟩ := hp
  show WS d.K (t_l_names d) [some (.raw (.int c)), none, none, none, none, none, none, none, none, none] W _
  unfold t_l_names
  walk_at "mgo"
  refine ⟨c, rfl, ?_⟩
  generalize c * 48271 % 999999999989 = mx
  walk_at "mgo"
  intro R hR
  refine fz_id ?_
  obtain ⟨sz, hsz, h1, h8⟩ : ∃ sz : Nat, 1 + mx % 8 = (sz : Int) ∧ 1 ≤ sz ∧ sz ≤ 8 := ⟨(1 + mx % 8).toNat, by omega, by omega, by omega⟩
  rw [hsz]
  generalize mx / 8 % (sz : Int) = at'
  walk_at "mgo"
  refine ⟨fun i e W' => e = [some (.raw (.int c)), some (.raw (.str "abcdefghijklmnopqrstuvwxyz")), some (.raw (.int mx)), some (.raw (.int sz)), some (.raw (.int at')), some (.ptr R), none, none, none, none] ∧ ∃ ss : List Str, W' = wset W R (.lst (ss.map D.str)) ∧ ss.length = i ∧ ∀ s ∈ ss, NameOk s, nx_id ⟨rfl, [], rfl, rfl, fun s hs => by simp at hs⟩, fun _ _ _ _ _ => trivial, ?_, ?_⟩
  · rintro i u e' W' hi hu ⟨rfl, ss, rfl, hl, hss⟩
    cases hu
    have hi : i < 3 := hi
    walk_at "mgo"
    refine ⟨fun j e W' => W' = wset W R (.lst (ss.map D.str)) ∧ ∃ s, e = [some (.raw (.int c)), some (.raw (.str "abcdefghijklmnopqrstuvwxyz")), some (.raw (.int mx)), some (.raw (.int sz)), some (.raw (.int at')), some (.ptr R), some (.raw (.int (0 + (i : Nat) * 1))), some (.raw (.str s)), none, none] ∧ AZ s ∧ s.length = j, nx_id ⟨rfl, _, rfl, AZ.nil, rfl⟩, fun _ _ _ _ _ => trivial, ?_, ?_⟩
    · rintro j u e' W' hj hu ⟨rfl, s, rfl, hz, hsl⟩
      cases hu
      have hj : j < sz := by simpa [itR] using hj
      rw [show (0 + (j : Nat) * 1 : Int) = (j : Nat) from by rw [Int.mul_one, Int.zero_add]]
      have hpos : 0 < (j : Int) * (j : Int) + 1 := by
        have := Int.natCast_nonneg (j * j)
        rw [Int.natCast_mul] at this
        omega
      have hcd : CDiv (mx / 64) ((j : Int) * (j : Int) + 1) := by
        have hj8 : j ≤ 8 := by omega
        have h64 : j * j ≤ 8 * 8 := Nat.mul_le_mul hj8 hj8
        have h64 : ((j * j : Nat) : Int) ≤ 64 := by omega
        rw [Int.natCast_mul] at h64
        exact ⟨hpos, by omega⟩
      walk_at "mgo"
      walk_at "dec"
      · walk_at "mgo"
        refine d_ixAZ (by omega) (by omega) ?_
        refine d_addS (by rw [lt1_len, sizeLine_eq]; omega) ?_
        walk_at "mgo"
        exact nx_le (by walk_at "le") ⟨rfl, _, rfl, hz.app (AZ.lt1 (by omega)), by rw [app_len, lt1_len, hsl]⟩
      · walk_at "mgo"
        refine d_ixAZ (by omega) (by omega) ?_
        refine d_addS (by rw [lt1_len, sizeLine_eq]; omega) ?_
        walk_at "mgo"
        exact nx_le (by walk_at "le") ⟨rfl, _, rfl, hz.app (AZ.lt1 (by omega)), by rw [app_len, lt1_len, hsl]⟩
    · rintro e' W' ⟨rfl, s, rfl, hz, hsl⟩
      have hsl : s.length = sz := by simpa [itR] using hsl
      walk_at "mgo"
      refine nx_le (by walk_at "le") ⟨rfl, ss ++ [s], ?_, by rw [List.length_append, hl]; rfl, fun t ht => ?_⟩
      · rw [List.map_append]; rfl
      rcases List.mem_append.mp ht with ht | ht
      · exact hss t ht
      · rw [List.mem_singleton.mp ht]
        exact ⟨hz, by omega, by omega⟩
  · rintro e' W' ⟨rfl, ss, rfl, hl, hss⟩
    walk_at "mgo"
    match ss, hl with
    | [s0, s1, s2], _ => exact ret_own (Sub.refl _) (k R s0 s1 s2 hR (hss _ (by simp)) (hss _ (by simp)) (hss _ (by simp)))
end
end RT

set_option Elab.async false
set_option linter.all false
set_option maxRecDepth 100000
set_option maxHeartbeats 400000
set_option autoImplicit false
namespace RT
open PySem L2
local macro_rules | `(tactic| walk_at "putf") => `(tactic| first | exact putF_nil | exact putF_hit | exact putF_miss (by decide) (by walk_at "putf"))
local macro_rules | `(tactic| walk_at "ne") => `(tactic| first | assumption | exact Ne.symm (by assumption) | ((refine' ne2 ?h1 ?h2); (case h1 => assumption); (case h2 => walk_at "hk")) | ((refine' ne2s ?h1 ?h2); (case h1 => assumption); (case h2 => walk_at "hk")) | exact ne_head (by assumption) | exact ne_of (by assumption) (by assumption) (by intro z; cases z))
local macro_rules | `(tactic| walk_at "hk") => `(tactic| first | assumption | with_reducible exact upd_same | ((with_reducible refine' up_ne ?h1 ?h2); (case h1 => walk_at "ne"); (case h2 => walk_at "hk")) | ((with_reducible refine' ex_at ?h1 ?h2); (case h1 => assumption); (case h2 => walk_at "hk")))
local macro_rules | `(tactic| walk_at "kit") => `(tactic| first | exact kit_int_int | exact kit_int_bool | exact kit_int_str | exact kit_int_list | exact kit_int_tuple | exact kit_int_dict | exact kit_bool_int | exact kit_bool_bool | exact kit_bool_str | exact kit_bool_list | exact kit_bool_tuple | exact kit_bool_dict | exact kit_str_int | exact kit_str_bool | exact kit_str_str | exact kit_str_list | exact kit_str_tuple | exact kit_str_dict | exact kit_NoneType_int | exact kit_NoneType_bool | exact kit_NoneType_str | exact kit_NoneType_list | exact kit_NoneType_tuple | exact kit_NoneType_dict | exact kit_list_int | exact kit_list_bool | exact kit_list_str | exact kit_list_list | exact kit_list_tuple | exact kit_list_dict | exact kit_tuple_int | exact kit_tuple_bool | exact kit_tuple_str | exact kit_tuple_list | exact kit_tuple_tuple | exact kit_tuple_dict | exact kit_dict_int | exact kit_dict_bool | exact kit_dict_str | exact kit_dict_list | exact kit_dict_tuple | exact kit_dict_dict)
local macro_rules | `(tactic| walk_at "sq") => `(tactic| first | assumption | ((with_reducible refine' SqL.of ?h); (case h => walk_at "hk")) | ((with_reducible refine' ex_sq ?h1 ?h2); (case h1 => assumption); (case h2 => walk_at "sq")))
local macro_rules | `(tactic| walk_at "st") => `(tactic| first | assumption | ((with_reducible refine' SqT.of ?h); (case h => walk_at "hk")) | ((with_reducible refine' ex_st ?h1 ?h2); (case h1 => assumption); (case h2 => walk_at "st")))
local macro_rules | `(tactic| walk_at "new") => `(tactic| (intro p hp; generalize hU : upd _ p _ = H'; have e1 := new_ex hp hU; have e2 := new_at hU; clear hU))
local macro_rules | `(tactic| walk_at "set") => `(tactic| ((try simp only [List.set_cons_succ, List.set_cons_zero]); rfl))
local macro_rules | `(tactic| walk_at "small") => `(tactic| first | assumption | (rw [sizeLine_eq]; (try simp only [List.length_cons, List.length_nil, str_len_app, sign_len]); omega) | (with_unfolding_all decide))
local macro_rules | `(tactic| walk_at "sc") => `(tactic| first | assumption | decide | omega | (unfold CMul; omega) | (unfold CDiv; omega) | (unfold CPow; decide) | (unfold CDiv; decide))
local macro_rules | `(tactic| walk_at "step") => `(tactic| first
  | with_reducible refine' w_seq ?_
  | with_reducible refine' w_op ?_
  | ((with_reducible refine' w_var ?h ?_); (case h => rfl))
  | with_reducible refine' w_c ?_
  | with_reducible refine' w_i0 ?_
  | with_reducible refine' w_cons ?_
  | with_reducible refine' w_nil ?_
  | with_reducible refine' w_asg ?_
  | ((with_reducible refine' w_gn ?e ?_); (case e => walk_at "set"))
  | with_reducible refine' w_ifS ?_
  | with_reducible refine' w_test ?_
  | with_reducible refine' w_tB ?_
  | with_reducible refine' w_bl ?_
  | with_reducible refine' w_int ?_
  | with_reducible refine' w_ref ?_
  | with_reducible refine' w_str ?_
  | with_reducible refine' w_eqI ?_
  | with_reducible refine' w_neI ?_
  | with_reducible refine' w_eqS ?_
  | with_reducible refine' w_neS ?_
  | with_reducible refine' w_ret ?_
  | with_reducible refine' w_for ?_
  | with_reducible refine' w_tFld ?_
  | ((with_reducible refine' w_fld ?h ?c ?n ?l ?_); (case h => walk_at "hk"); (case c => assumption); (case n => assumption); (case l => rfl))
  | with_reducible refine' w_sFld ?_
  | ((with_reducible refine' w_rsFld ?h ?c ?n ?l ?e ?_); (case h => walk_at "hk"); (case c => assumption); (case n => assumption); (case e => walk_at "putf"); (case l => (simp only [List.length_cons, List.length_nil]; omega)))
  | with_reducible refine' w_tDGet ?_
  | with_reducible refine' w_tDIn ?_
  | with_reducible refine' w_tDNotIn ?_
  | ((with_reducible refine' w_dinI ?h ?_); (case h => walk_at "hk"))
  | with_reducible refine' w_sDPut ?_
  | with_reducible refine' w_bm ?_
  | with_reducible refine' w_bm0 ?_
  | ((with_reducible refine' w_tyL ?h ?_); (case h => walk_at "sq"))
  | with_reducible refine' w_iRev ?_
  | ((with_reducible refine' w_rev1 ?h ?_); (case h => walk_at "sq"))
  | with_reducible refine' w_iItems ?_
  | with_reducible refine' w_iKeys ?_
  | with_reducible refine' w_iRng3 ?_
  | with_reducible refine' w_iZip ?_
  | with_reducible refine' w_gCons ?_
  | with_reducible refine' w_gNil ?_
  | ((with_reducible refine' w_gTup ?h ?l ?_); (case h => walk_at "st"); (case l => rfl))
  | with_reducible refine' w_m1 ?_
  | with_reducible refine' w_isS ?_
  | with_reducible refine' w_lc ?_
  | with_reducible refine' w_iList ?_
  | with_reducible refine' w_iTup ?_
  | with_reducible refine' w_iStr ?_
  | with_reducible refine' w_iRng1 ?_
  | with_reducible refine' w_iRng2 ?_
  | with_reducible refine' w_v1I ?_
  | with_reducible refine' w_v2I ?_
  | with_reducible refine' w_next ?_
  | with_reducible refine' w_call ?_
  | with_reducible refine' w_cb ?_
  | with_reducible refine' w_and ?_
  | with_reducible refine' w_or ?_
  | with_reducible refine' w_not ?_
  | with_reducible refine' w_andV ?_
  | with_reducible refine' w_orV ?_
  | with_reducible refine' w_notV ?_
  | with_reducible refine' w_ifE ?_
  | with_reducible refine' w_drop ?_
  | with_reducible refine' w_un ?_
  | with_reducible refine' w_u ?_
  | with_reducible refine' w_isNN ?_
  | with_reducible refine' w_isNI ?_
  | with_reducible refine' w_isNS ?_
  | with_reducible refine' w_isNR ?_
  | with_reducible refine' w_notNN ?_
  | with_reducible refine' w_notNI ?_
  | with_reducible refine' w_notNS ?_
  | with_reducible refine' w_notNR ?_
  | with_reducible refine' w_int1 ?_
  | with_reducible refine' w_int1b ?_
  | with_reducible refine' w_tup ?_
  | with_reducible refine' w_lst ?_
  | with_reducible refine' w_dnew ?_
  | with_reducible refine' w_sl ?_
  | with_reducible refine' w_noPart ?_
  | with_reducible refine' w_part ?_
  | with_reducible refine' w_retN ?_
  | with_reducible refine' w_brk ?_
  | with_reducible refine' w_cont ?_
  | with_reducible refine' w_chain ?_
  | with_reducible refine' w_lt ?_
  | with_reducible refine' w_le ?_
  | with_reducible refine' w_gt ?_
  | with_reducible refine' w_ge ?_
  | with_reducible refine' w_ltS ?_
  | with_reducible refine' w_leS ?_
  | with_reducible refine' w_gtS ?_
  | with_reducible refine' w_geS ?_
  | ((with_reducible refine' w_addS ?h ?_); (case h => walk_at "small"))
  | with_reducible refine' w_inS ?_
  | with_reducible refine' w_ninS ?_
  | with_reducible refine' w_par ?_
  | with_reducible refine' w_v2 ?_
  | with_reducible refine' w_max2 ?_
  | with_reducible refine' w_min2 ?_
  | with_reducible refine' w_tru ?_
  | with_reducible refine' w_meth ?_
  | ((with_reducible refine' w_meth1 ?h ?l ?_); (case h => walk_at "hk"); (case l => rfl))
  | with_reducible refine' w_make ?_
  | ((with_reducible refine' w_isiI ?h ?_); (case h => walk_at "kit"))
  | ((with_reducible refine' w_isiB ?h ?_); (case h => walk_at "kit"))
  | ((with_reducible refine' w_isiN ?h ?_); (case h => walk_at "kit"))
  | ((with_reducible refine' w_isiS ?h ?_); (case h => walk_at "kit"))
  | ((with_reducible refine' w_isiSL ?h ?e ?_); (case h => walk_at "sq"); (case e => walk_at "kit"))
  | ((with_reducible refine' w_isiST ?h ?e ?_); (case h => walk_at "st"); (case e => walk_at "kit"))
  | ((with_reducible refine' w_i ?h ?_); (case h => walk_at "sc"))
  | with_reducible refine' w_ttL ?_
  | with_reducible refine' w_ffL ?_
  | ((with_reducible refine' w_tt ?h ?_); (case h => first | exact dB_t (by decide) | exact nB_t (by decide) | decide))
  | ((with_reducible refine' w_ff ?h ?_); (case h => first | exact dB_f (by decide) | exact nB_f (by decide) | decide))
  | ((with_reducible refine' w_lenS ?h ?_); (case h => walk_at "sq"))
  | ((with_reducible refine' w_lenT ?h ?_); (case h => walk_at "st"))
  | ((with_reducible refine' w_slL ?h ?_); (case h => walk_at "sq"))
  | ((with_reducible refine' w_aug ?h ?_); (case h => rfl))
  | with_reducible refine' w_ip ?_
  | ((with_reducible refine' w_cat ?h1 ?h2 ?h3 ?_); (case h1 => walk_at "hk"); (case h2 => walk_at "hk"); (case h3 => walk_at "small"))
  | ((with_reducible refine' w_ixL ?h1 ?h2 ?_); (case h1 => walk_at "sq"); (case h2 => rfl))
  | ((with_reducible refine' w_ixT ?h1 ?h2 ?_); (case h1 => walk_at "st"); (case h2 => rfl))
  | ((with_reducible refine' w_lenStr ?h ?_); (case h => walk_at "small"))
  | ((with_reducible refine' w_slS ?h ?_); (case h => walk_at "small"))
  | ((with_reducible refine' w_sz ?h ?_); (case h => walk_at "small")))
local macro_rules | `(tactic| walk_at "go") => `(tactic| (repeat (first | walk_at "step" | walk_at "callx")))
local macro_rules | `(tactic| walk_at "goN") => `(tactic| (repeat (first | walk_at "step" | walk_at "callx" | ((with_reducible show ∀ p, _ = none → _); walk_at "new"))))
local macro_rules | `(tactic| walk_at "len") => `(tactic| first
  | (obtain ⟨rfl, _⟩ := h; rfl) | (obtain ⟨_, rfl, _⟩ := h; rfl) | (obtain ⟨_, _, rfl, _⟩ := h; rfl) | (obtain ⟨_, _, _, rfl, _⟩ := h; rfl) | (obtain ⟨_, _, _, _, rfl, _⟩ := h; rfl)
  | (obtain ⟨_, _, _, _, _, rfl, _⟩ := h; rfl) | (obtain ⟨_, _, _, _, _, _, rfl, _⟩ := h; rfl) | (obtain ⟨_, _, _, _, _, _, _, rfl, _⟩ := h; rfl) | (obtain ⟨_, _, _, _, _, _, _, _, rfl, _⟩ := h; rfl)
  | (obtain ⟨_, _, _, _, _, _, _, _, _, rfl, _⟩ := h; rfl) | (obtain ⟨_, _, _, _, _, _, _, _, _, _, rfl, _⟩ := h; rfl))
local macro_rules | `(tactic| walk_at "dec") => `(tactic| (first | with_reducible apply w_dec | with_reducible apply w_ndec | with_reducible apply w_bool) <;> intro hc)
local macro_rules | `(tactic| walk_at "msm") => `(tactic| first | with_reducible assumption | (rw [sizeLine_eq]; (try simp only [List.length_cons, List.length_nil, List.length_append, List.length_map, List.length_set, str_len_app, sign_len]); omega))
local macro_rules | `(tactic| walk_at "wne") => `(tactic| first | with_reducible assumption | exact Ne.symm (by with_reducible assumption) | ((refine' ne_w2 ?h2 ?h1); (case h2 => with_reducible assumption); (case h1 => walk_at "wk")) | ((refine' ne_w2s ?h2 ?h1); (case h2 => with_reducible assumption); (case h1 => walk_at "wk")))
local macro_rules | `(tactic| walk_at "wk") => `(tactic| first | with_reducible assumption | with_reducible exact ws_same | ((with_reducible refine' ws_lk ?h1 ?h2); (case h1 => walk_at "wne"); (case h2 => walk_at "wk")) | ((with_reducible refine' we_lk ?h1 ?h2); (case h1 => walk_at "wne"); (case h2 => walk_at "wk")))
local macro_rules | `(tactic| walk_at "sd") => `(tactic| first | with_reducible assumption | with_reducible exact SeqD.lst _ | with_reducible exact SeqD.scr _ | ((with_reducible refine' SeqD.own ?h); (case h => walk_at "wk")) | ((with_reducible refine' SeqD.er ?m ?h); (case h => with_reducible assumption); (case m => walk_at "sub")))
local macro_rules | `(tactic| walk_at "cd") => `(tactic| first | with_reducible assumption | with_reducible exact CatD.lst _ | ((with_reducible refine' CatD.own ?h); (case h => walk_at "wk")))
local macro_rules | `(tactic| walk_at "dd") => `(tactic| first | with_reducible assumption | ((with_reducible refine' DctD.own ?h); (case h => walk_at "wk")) | ((with_reducible refine' DctD.lock ?h); (case h => walk_at "wk")))
local macro_rules | `(tactic| walk_at "le") => `(tactic| repeat (first | exact EnvLe.nil | exact EnvLe.refl _ | with_reducible refine' EnvLe.cons (.inl rfl) ?_ | with_reducible refine' EnvLe.cons (.inr rfl) ?_))
local macro_rules | `(tactic| walk_at "sub") => `(tactic| first | with_reducible assumption | exact Sub.refl _ | ((with_reducible refine' Sub.set ?h1); (case h1 => walk_at "sub")) | ((with_reducible refine' Sub.new ?h1 ?h2); (case h2 => walk_at "wn"); (case h1 => walk_at "sub")))
local macro_rules | `(tactic| walk_at "wn") => `(tactic| first | with_reducible assumption | ((with_reducible refine' ws_non ?h); (case h => with_reducible assumption)) | ((with_reducible refine' ws_non (ws_non ?h)); (case h => with_reducible assumption)) | ((with_reducible refine' ws_non (ws_non (ws_non ?h))); (case h => with_reducible assumption)))
local macro_rules | `(tactic| walk_at "own") => `(tactic| first | ((with_reducible refine' own_name ?h); (case h => decide)) | ((with_reducible refine' own_tup ?h); (case h => walk_at "own")) | ((with_reducible refine' own_cons ?h1 ?h2); (case h1 => walk_at "own"); (case h2 => walk_at "own")) | with_reducible exact own_nil)
local macro_rules | `(tactic| walk_at "mputf") => `(tactic| first | exact putD_nil | exact putD_hit | exact putD_miss (by decide) (by walk_at "mputf"))
local macro_rules | `(tactic| walk_at "mst") => `(tactic| first
  | with_reducible refine' ws_seq ?_
  | with_reducible refine' we_op ?_
  | ((with_reducible refine' we_var ?h ?_); (case h => rfl))
  | with_reducible refine' we_c ?_
  | with_reducible refine' d_i0 ?_
  | with_reducible refine' wa_cons ?_
  | with_reducible refine' wa_nil ?_
  | with_reducible refine' ws_asg ?_
  | ((with_reducible refine' wg_name ?e ?_); (case e => walk_at "set"))
  | with_reducible refine' ws_if ?_
  | with_reducible refine' we_test ?_
  | with_reducible refine' we_tB ?_
  | with_reducible refine' we_bl ?_
  | with_reducible refine' d_eqI ?_
  | with_reducible refine' d_neI ?_
  | with_reducible refine' d_eqS ?_
  | with_reducible refine' d_neS ?_
  | with_reducible refine' ws_ret ?_
  | with_reducible refine' ws_for ?_
  | with_reducible refine' we_fld ?_
  | ((with_reducible refine' d_fldW ?h ?c ?n ?l ?_); (case h => walk_at "wk"); (case c => assumption); (case n => assumption); (case l => rfl))
  | ((with_reducible refine' d_fldO ?c ?n ?l ?_); (case c => assumption); (case n => assumption); (case l => rfl))
  | with_reducible refine' ws_fld ?_
  | ((with_reducible refine' d_sfld ?h ?c ?n ?l ?he ?_); (case h => walk_at "wk"); (case c => assumption); (case n => assumption); (case he => walk_at "mputf"); (case l => (simp only [List.length_cons, List.length_nil]; omega)))
  | with_reducible refine' we_dget ?_
  | with_reducible refine' we_din ?_
  | with_reducible refine' we_dnotin ?_
  | ((with_reducible refine' d_dinI ?h ?_); (case h => walk_at "dd"))
  | ((with_reducible refine' d_dinS ?h ?_); (case h => walk_at "dd"))
  | with_reducible refine' ws_dput ?_
  | with_reducible refine' we_dnew ?_
  | with_reducible refine' we_bm ?_
  | with_reducible refine' we_bm0 ?_
  | ((with_reducible refine' d_seq ?h ?_); (case h => walk_at "sd"))
  | with_reducible refine' wi_list ?_
  | ((with_reducible refine' d_sq ?h ?_); (case h => walk_at "sd"))
  | with_reducible refine' wi_tup ?_
  | with_reducible refine' d_tp ?_
  | with_reducible refine' wi_str ?_
  | with_reducible refine' d_st ?_
  | with_reducible refine' wi_rng1 ?_
  | ((with_reducible refine' d_r1 ?h ?_); (case h => omega))
  | with_reducible refine' wi_rng2 ?_
  | ((with_reducible refine' d_r2 ?h ?_); (case h => omega))
  | with_reducible refine' wi_rng3 ?_
  | with_reducible refine' wi_enum ?_
  | with_reducible refine' wi_rev ?_
  | ((with_reducible refine' d_one ?h ?_); (case h => walk_at "sd"))
  | with_reducible refine' wi_zip ?_
  | ((with_reducible refine' d_two ?h ?h2 ?_); (case h => walk_at "sd"); (case h2 => walk_at "sd"))
  | with_reducible refine' wg_tupL ?_
  | with_reducible refine' wgs_cons ?_
  | with_reducible refine' wgs_nil ?_
  | with_reducible refine' we_m1 ?_
  | with_reducible refine' d_isS ?_
  | with_reducible refine' ws_next ?_
  | with_reducible refine' we_cb ?_
  | with_reducible refine' we_and ?_
  | with_reducible refine' we_or ?_
  | with_reducible refine' we_not ?_
  | with_reducible refine' we_andV ?_
  | with_reducible refine' we_orV ?_
  | with_reducible refine' we_notV ?_
  | with_reducible refine' we_if ?_
  | with_reducible refine' ws_drop ?_
  | with_reducible refine' we_un ?_
  | with_reducible refine' d_u ?_
  | with_reducible refine' d_isNN ?_
  | with_reducible refine' d_isNI ?_
  | with_reducible refine' d_isNS ?_
  | with_reducible refine' d_isNR ?_
  | with_reducible refine' d_notNN ?_
  | with_reducible refine' d_notNI ?_
  | with_reducible refine' d_notNS ?_
  | with_reducible refine' d_notNR ?_
  | with_reducible refine' d_int1 ?_
  | with_reducible refine' d_int1b ?_
  | with_reducible refine' we_tup ?_
  | with_reducible refine' we_lstF ?_
  | with_reducible refine' we_sl ?_
  | with_reducible refine' wo_no ?_
  | with_reducible refine' wo_part ?_
  | with_reducible refine' wo_i ?_
  | with_reducible refine' ws_retN ?_
  | with_reducible refine' ws_brk ?_
  | with_reducible refine' ws_cont ?_
  | with_reducible refine' we_chain ?_
  | with_reducible refine' d_lt ?_
  | with_reducible refine' d_le ?_
  | with_reducible refine' d_gt ?_
  | with_reducible refine' d_ge ?_
  | with_reducible refine' d_ltS ?_
  | with_reducible refine' d_leS ?_
  | with_reducible refine' d_gtS ?_
  | with_reducible refine' d_geS ?_
  | ((with_reducible refine' d_addS ?h ?_); (case h => walk_at "msm"))
  | with_reducible refine' d_inS ?_
  | with_reducible refine' d_ninS ?_
  | with_reducible refine' ws_par ?_
  | with_reducible refine' d_v2 ?_
  | with_reducible refine' d_max2 ?_
  | with_reducible refine' d_min2 ?_
  | with_reducible refine' we_meth ?_
  | ((with_reducible refine' d_meth ?h ?l ?_); (case h => walk_at "wk"); (case l => rfl))
  | ((with_reducible refine' d_isiI ?h ?_); (case h => walk_at "kit"))
  | ((with_reducible refine' d_isiB ?h ?_); (case h => walk_at "kit"))
  | ((with_reducible refine' d_isiN ?h ?_); (case h => walk_at "kit"))
  | ((with_reducible refine' d_isiS ?h ?_); (case h => walk_at "kit"))
  | ((with_reducible refine' d_isiT ?h ?_); (case h => walk_at "kit"))
  | ((with_reducible refine' d_isiL ?h ?hk ?_); (case h => walk_at "sd"); (case hk => walk_at "kit"))
  | ((with_reducible refine' d_i ?h ?_); (case h => walk_at "sc"))
  | with_reducible refine' w_ttL ?_
  | with_reducible refine' w_ffL ?_
  | ((with_reducible refine' w_tt ?h ?_); (case h => first | exact dB_t (by decide) | exact nB_t (by decide) | decide))
  | ((with_reducible refine' w_ff ?h ?_); (case h => first | exact dB_f (by decide) | exact nB_f (by decide) | decide))
  | with_reducible refine' d_lenT ?_
  | ((with_reducible refine' d_lenL ?h ?_); (case h => walk_at "sd"))
  | ((with_reducible refine' d_lenD ?h ?_); (case h => walk_at "wk"))
  | ((with_reducible refine' d_slLF ?h ?_); (case h => walk_at "sd"))
  | ((with_reducible refine' ws_aug ?h ?_); (case h => rfl))
  | with_reducible refine' d_ip ?_
  | ((with_reducible refine' d_ixL ?h1 ?h2 ?_); (case h1 => walk_at "sd"); (case h2 => rfl))
  | ((with_reducible refine' d_ixT ?h2 ?_); (case h2 => rfl))
  | ((with_reducible refine' d_ixAL ?h1 ?h2 ?_); (case h1 => walk_at "sd"); (case h2 => rfl))
  | ((with_reducible refine' d_ixAT ?h2 ?_); (case h2 => rfl))
  | ((with_reducible refine' d_lenStr ?h ?_); (case h => walk_at "msm"))
  | ((with_reducible refine' d_slS ?h ?_); (case h => walk_at "msm"))
  | ((with_reducible refine' d_sz ?h ?_); (case h => walk_at "msm"))
  | ((with_reducible refine' d_catF ?h1 ?h2 ?h3 ?_); (case h1 => walk_at "cd"); (case h2 => walk_at "cd"); (case h3 => walk_at "msm"))
  | ((with_reducible refine' d_catQF ?h1 ?h2 ?h3 ?_); (case h1 => walk_at "sd"); (case h2 => walk_at "sd"); (case h3 => walk_at "msm"))
  | ((with_reducible refine' d_app ?h ?hl ?_); (case h => walk_at "wk"); (case hl => walk_at "msm"))
  | ((with_reducible refine' d_ext ?h ?h2 ?hl ?_); (case h => walk_at "wk"); (case h2 => walk_at "cd"); (case hl => walk_at "msm"))
  | ((with_reducible refine' d_clr ?h ?_); (case h => walk_at "wk"))
  | ((with_reducible refine' d_rev ?h ?_); (case h => walk_at "wk"))
  | ((with_reducible refine' d_listF ?h ?_); (case h => walk_at "sd"))
  | with_reducible refine' d_listTF ?_
  | ((with_reducible refine' we_lcLF ?ow ?_); (case ow => walk_at "own"))
  | with_reducible refine' wt_yes ?_
  | with_reducible rw [ws_ws])
local macro_rules | `(tactic| walk_at "mgo") => `(tactic| (repeat (first | walk_at "mst" | walk_at "callm" | with_reducible refine' we_call ?_)))
local macro_rules | `(tactic| walk_at "mgoN") => `(tactic| (repeat (first | walk_at "mst" | walk_at "callm" | with_reducible refine' we_call ?_ | ((with_reducible show ∀ p, _ = none → _); intro p hp; refine fz_id ?_))))
local macro_rules | `(tactic| walk_at "keep") => `(tactic| (intro p hp; refine fz_id ?_; walk_at "mgo"))
local macro_rules | `(tactic| walk_at "dat") => `(tactic| (intro p hp; refine fz_new hp ?_; clear hp; try clear p; walk_at "mgo"))
local macro_rules | `(tactic| walk_at "mkp") => `(tactic| first | with_reducible refine' mk_Let ?_ | with_reducible refine' mk_Reckon ?_ | with_reducible refine' mk_Take ?_ | with_reducible refine' mk_Put ?_ | with_reducible refine' mk_If ?_ | with_reducible refine' mk_Either ?_ | with_reducible refine' mk_Try ?_ | with_reducible refine' mk_Throw ?_ | with_reducible refine' mk_Wait ?_ | with_reducible refine' ex_si ?_ | with_reducible refine' ex_ss ?_ | with_reducible refine' ex_ssss ?_)
def five : List Str := ["plus", "minus", "times", "less", "same"]
def Sl (s : Str) : Prop := ∃ k : Nat, k < 8 ∧ s = lt1 (97 + k)
mutual
def okP : Pt → Prop
  | .let_ s n => Sl s ∧ 0 ≤ n ∧ n < 18446744073709551616
  | .rk w s o t => w ∈ five ∧ Sl s ∧ Sl o ∧ Sl t
  | .take s p => Sl s ∧ Sl p
  | .put p s => Sl p ∧ Sl s
  | .iff s ps os => Sl s ∧ okPs ps ∧ okPs os
  | .eith ps os => okPs ps ∧ okPs os
  | .tryy ps n s os => okPs ps ∧ NameOk n ∧ Sl s ∧ okPs os
  | .throw n s => NameOk n ∧ Sl s
  | .wait => True
def okPs : List Pt → Prop
  | [] => True
  | p :: r => okP p ∧ okPs r
end
theorem okPs_iff : ∀ {ps : List Pt}, okPs ps ↔ ∀ p ∈ ps, okP p
  | [] => by simp [okPs]
  | p :: r => by rw [okPs, okPs_iff (ps := r)]; simp
theorem okPs_app {ps qs : List Pt} (h : okPs ps) (k : okPs qs) : okPs (ps ++ qs) := okPs_iff.mpr fun p hp => by
  rcases List.mem_append.mp hp with hp | hp
  · exact okPs_iff.mp h p hp
  · exact okPs_iff.mp k p hp
theorem okPs_one {p : Pt} (h : okP p) : okPs [p] := by simp only [okPs]; exact ⟨h, trivial⟩
mutual
def trD : Pt → D
  | .let_ s n => .tup [.str "let", .str s, .int n]
  | .rk w s o t => .tup [.str "reckon", .str w, .str s, .str o, .str t]
  | .take s p => .tup [.str "take", .str s, .str p]
  | .put p s => .tup [.str "put", .str p, .str s]
  | .iff s ps os => .tup [.str "if", .str s, .lst (trsD ps), .lst (trsD os)]
  | .eith ps os => .tup [.str "either", .lst (trsD ps), .lst (trsD os)]
  | .tryy ps n s os => .tup [.str "try", .lst (trsD ps), .str n, .str s, .lst (trsD os)]
  | .throw n s => .tup [.str "throw", .str n, .str s]
  | .wait => .tup [.str "wait"]
def trsD : List Pt → List D
  | [] => []
  | p :: r => trD p :: trsD r
end
theorem trsD_map : ∀ ps : List Pt, trsD ps = ps.map trD
  | [] => by rw [trsD]; rfl
  | p :: r => by rw [trsD, trsD_map r]; rfl
theorem trsD_app (ps qs : List Pt) : trsD (ps ++ qs) = trsD ps ++ trsD qs := by rw [trsD_map, trsD_map, trsD_map, List.map_append]
theorem trsD_len (ps : List Pt) : (trsD ps).length = ps.length := by rw [trsD_map, List.length_map]
theorem trsD_get {ps : List Pt} {i : Nat} {x : D} (h : (trsD ps)[i]? = some x) : ∃ p, ps[i]? = some p ∧ x = trD p := by
  rw [trsD_map, List.getElem?_map] at h
  obtain ⟨p, h1, h2⟩ := Option.map_eq_some_iff.mp h
  exact ⟨p, h1, h2.symm⟩
theorem len_lenP : ∀ ps : List Pt, ps.length ≤ lenPs ps
  | [] => by simp [lenPs]
  | p :: r => by
    rw [lenPs, List.length_cons]
    have := len_lenP r
    have : 1 ≤ lenP p := by cases p <;> simp [lenP] <;> omega
    omega
theorem menuD {α : Type} {P : α → Prop} {l : List α} (f : α → D) {i : Int} (h0 : 0 ≤ i) (h1 : i < l.length) (h : ∀ a ∈ l, P a) : ∃ a, atI (l.map f) i = some (f a) ∧ P a := by
  obtain ⟨k, rfl⟩ : ∃ k : Nat, i = k := ⟨i.toNat, by omega⟩
  have hk : k < l.length := by omega
  refine ⟨l[k], atI_nat ?_, h _ (List.getElem_mem hk)⟩
  rw [List.getElem?_map, List.getElem?_eq_getElem hk]; rfl
structure Names (l : List Str) : Prop where
  len : l.length = 3
  ok : ∀ s ∈ l, NameOk s
def Letters (z : Str) (k : Nat) : Prop := z.length = k ∧ z.cps.toList = (List.range k).map (97 + ·)
theorem letters_at {z : Str} {k : Nat} (h : Letters z k) (hk : k ≤ 8) {i : Int} (h0 : 0 ≤ i) (h1 : i < k) : ∃ s, atI z.cps.toList i = some (97 + i.toNat) ∧ s = lt1 (97 + i.toNat) ∧ Sl s :=
  ⟨_, atI_codes h.2 h0 h1, rfl, i.toNat, by omega, rfl⟩
theorem d_ixLet {K : PySem.W.Frag} {W : Wd} {Q : KD} {z : Str} {k : Nat} (h : Letters z k) (hk : k ≤ 8) {i : Int} (h0 : 0 ≤ i) (h1 : i < k) (q : ∀ s, Sl s → Q (.raw (.str s)) W) : RD K rIxS (.raw (.str z)) (.raw (.int i)) W Q :=
  d_ixS (by rw [h.1, sizeLine_eq]; omega) (atI_codes h.2 h0 h1) (q _ ⟨i.toNat, by omega, rfl⟩)
theorem abc_letters : Letters ("abc" : Str) 3 := ⟨by decide +kernel, by decide +kernel⟩
theorem ab_cut {m : Int} : ∃ (z : Str) (k : Nat), atI [D.int 2, D.int 3, D.int 8] (m % 3) = some (D.int (k : Nat)) ∧ cutS ("abcdefgh" : Str) none (some (k : Int)) = z ∧ Letters z k ∧ 2 ≤ k ∧ k ≤ 8 := by
  obtain h | h | h : m % 3 = 0 ∨ m % 3 = 1 ∨ m % 3 = 2 := by omega
  · rw [h]; exact ⟨"ab", 2, rfl, by decide +kernel, ⟨by decide +kernel, by decide +kernel⟩, by decide, by decide⟩
  · rw [h]; exact ⟨"abc", 3, rfl, by decide +kernel, ⟨by decide +kernel, by decide +kernel⟩, by decide, by decide⟩
  · rw [h]; exact ⟨"abcdefgh", 8, rfl, by decide +kernel, ⟨by decide +kernel, by decide +kernel⟩, by decide, by decide⟩
def p_l_plain (_ : Ad) : PF := fun ds W Q => ∃ (m c : Int), ds = [.int m, .int c] ∧ ∀ ps : List Pt, okPs ps → ps.length ≤ 4 → (∀ p ∈ ps, isPlain p = true) → Q (.lst (trsD ps)) W
def p_l_sided (_ : Ad) : PF := fun ds W Q => ∃ (m : Int) (z : D) (ps os : List Pt), ds = [.int m, .lst (trsD ps), .lst (trsD os), z] ∧ ∃ (nm : List Str), SeqD W z (nm.map D.str) ∧ Names nm ∧ okPs ps ∧ okPs os ∧ lenPs ps ≤ 1000 ∧ lenPs os ≤ 1000 ∧
  ∀ p : Pt, okP p → lenP p ≤ 6 + lenPs ps + lenPs os → ndP p ≤ 3 + max 4 (max (ndPs ps) (ndPs os)) → Q (trD p) W
def pN_l_tree (n : Nat) (_ : Ad) : PF := fun ds W Q => ∃ (x : D) (k : Nat) (z : D), ds = [x, .int (k : Nat), z] ∧ ∃ (ns : List Int) (nm : List Str), SeqD W x (ns.map D.int) ∧ ns.length ≤ 63 ∧ SeqD W z (nm.map D.str) ∧ Names nm ∧ k + 1 ≤ n ∧
  ∀ ps : List Pt, okPs ps → lenPs ps ≤ 6 * ns.length → ndPs ps ≤ 4 + 3 * k → Q (.lst (trsD ps)) W
def pN_l_made (n : Nat) (d : Ad) : PF := fun ds W Q => ∃ (x : D), ds = [x] ∧ ∃ (ps : List Pt), SeqD W x (trsD ps) ∧ ps.length ≤ 1000 ∧ lenPs ps ≤ 1000 ∧ ndPs ps < n ∧ Q (.lst (psD d ps)) W
abbrev sp_l_plain (d : Ad) : Sp := lift d.K (p_l_plain d)
abbrev sp_l_sided (d : Ad) : Sp := lift d.K (p_l_sided d)
abbrev spN_l_tree (n : Nat) (d : Ad) : Sp := lift d.K (pN_l_tree n d)
abbrev spN_l_made (n : Nat) (d : Ad) : Sp := lift d.K (pN_l_made n d)
abbrev sp_l_tree (d : Ad) : Sp := spN_l_tree 5 d
abbrev sp_l_made (d : Ad) : Sp := spN_l_made 20 d
theorem no_l_tree {d : Ad} {vs : List V} {H : Hp} {Q : VK} {E : XK} (h : spN_l_tree 0 d vs H Q E) : False := by
  obtain ⟨_, _, _, _, _, _, ⟨_, _, _, _, _, _, _, _, _, _, h, _⟩, _⟩ := h
  omega
theorem no_l_made {d : Ad} {vs : List V} {H : Hp} {Q : VK} {E : XK} (h : spN_l_made 0 d vs H Q E) : False := by
  obtain ⟨_, _, _, _, _, _, ⟨_, _, _, _, _, _, h, _⟩, _⟩ := h
  omega
abbrev N_l_plain : List Str := ["_law_mixed_here", "_law_cell", "_law_letters", "_law_many", "_law_rest", "_law_one", "_law_other", "_law_third", "_law_way", "_law_word", "_law_tree_here"]
def t_l_plain (d : Ad) : TS :=
  (tSeq (tAsg (tSl rSlS (tC (.str "abcdefgh")) tNoPart (tPart (tOp (rIxL d.K) (tLst (tCons (tC (.int 2)) (tCons (tC (.int 3)) (tCons (tC (.int 8)) tNil)))) (aMod (tVar 0) (tC (.int 3)))))) (gName 2))
  (tSeq (tAsg (tCB rLenStr (tCons (tVar 2) tNil)) (gName 3))
  (tSeq (tAsg (aDiv (tVar 0) (tC (.int 33))) (gName 4))
  (tSeq (tAsg (tOp rIxS (tVar 2) (aMod (tVar 4) (tVar 3))) (gName 5))
  (tSeq (tAsg (tOp rIxS (tVar 2) (aMod (aDiv (tVar 4) (tVar 3)) (tVar 3))) (gName 6))
  (tSeq (tAsg (tOp rIxS (tVar 2) (aMod (aDiv (aDiv (tVar 4) (tVar 3)) (tVar 3)) (tVar 3))) (gName 7))
  (tSeq (tAsg (aMod (aDiv (tVar 0) (tC (.int 3))) (tC (.int 11))) (gName 8))
  (tSeq (tIfS (tTest (tOp rEq (tVar 8) (tC (.int 0)))) (tRet (tLst (tCons (tTup (tCons (tC (.str "let")) (tCons (tVar 5) (tCons (tCall (sp_l_wide d) [] E0 (tCons (tVar 1) tNil)) tNil)))) tNil))) tNext)
  (tSeq (tIfS (tTest (tOp rLt (tVar 8) (tC (.int 3)))) (tRet (tLst (tCons (tTup (tCons (tC (.str "let")) (tCons (tVar 5) (tCons (aMod (aDiv (tVar 4) (tC (.int 1000))) (tC (.int 4))) tNil)))) tNil))) tNext)
  (tSeq (tIfS (tTest (tOp rLt (tVar 8) (tC (.int 5)))) (tSeq (tAsg (tOp (rIxL d.K) (tLst (tCons (tC (.str "plus")) (tCons (tC (.str "minus")) (tCons (tC (.str "times")) (tCons (tC (.str "less")) (tCons (tC (.str "same")) tNil)))))) (aMod (aDiv (tVar 4) (tC (.int 1000))) (tC (.int 5)))) (gName 9))
  (tRet (tLst (tCons (tTup (tCons (tC (.str "reckon")) (tCons (tVar 9) (tCons (tVar 5) (tCons (tVar 6) (tCons (tVar 7) tNil)))))) tNil)))) tNext)
  (tSeq (tIfS (tTest (tOp rLt (tVar 8) (tC (.int 7)))) (tRet (tLst (tCons (tTup (tCons (tC (.str "take")) (tCons (tVar 5) (tCons (tVar 6) tNil)))) tNil))) tNext)
  (tSeq (tIfS (tTest (tOp rLt (tVar 8) (tC (.int 9)))) (tRet (tLst (tCons (tTup (tCons (tC (.str "put")) (tCons (tVar 5) (tCons (tVar 6) tNil)))) tNil))) tNext)
  (tSeq (tAsg (tOp (rIxL d.K) (tLst (tCons (tC (.str "plus")) (tCons (tC (.str "minus")) (tCons (tC (.str "times")) tNil)))) (aMod (aDiv (tVar 4) (tC (.int 1000))) (tC (.int 3)))) (gName 9))
  (tSeq (tAsg (tLst (tCons (tTup (tCons (tC (.str "let")) (tCons (tVar 5) (tCons (aMod (aDiv (tVar 4) (tC (.int 3000))) (tC (.int 3))) tNil)))) (tCons (tTup (tCons (tC (.str "take")) (tCons (tVar 6) (tCons (tVar 5) tNil)))) tNil))) (gName 10))
  (tRet (aCatQ d.K (tVar 10) (tLst (tCons (tTup (tCons (tC (.str "reckon")) (tCons (tVar 9) (tCons (tVar 6) (tCons (tVar 6) (tCons (tVar 7) tNil)))))) (tCons (tTup (tCons (tC (.str "put")) (tCons (tVar 5) (tCons (tVar 6) tNil)))) tNil)))))))))))))))))))
abbrev N_l_sided : List Str := ["_law_mixed_here", "_law_one", "_law_other", "_law_names_here", "_law_letters", "_law_slot", "_law_way", "_law_stop"]
def t_l_sided_8 (d : Ad) : TS :=
  (tSeq (tIfS (tTest (tOp rEq (tVar 6) (tC (.int 1)))) (tRet (tTup (tCons (tC (.str "either")) (tCons (tVar 1) (tCons (tVar 2) tNil))))) tNext)
  (tRet (tTup (tCons (tC (.str "try")) (tCons (tVar 1) (tCons (tOp (rIxL d.K) (tVar 3) (aMod (aDiv (tVar 0) (tC (.int 81))) (tC (.int 3)))) (tCons (tOp rIxS (tVar 4) (aMod (aDiv (tVar 0) (tC (.int 243))) (tC (.int 3)))) (tCons (tVar 2) tNil))))))))
def t_l_sided_6 (d : Ad) : TS :=
  (tSeq (tIfS (tTest (tOp rEq (aMod (aDiv (tVar 0) (tC (.int 3))) (tC (.int 3))) (tC (.int 1)))) (tAsg (aCatQ d.K (tVar 1) (tLst (tCons (tVar 7) tNil))) (gName 1)) tNext)
  (tSeq (tIfS (tTest (tOp rEq (aMod (aDiv (tVar 0) (tC (.int 3))) (tC (.int 3))) (tC (.int 2)))) (tAsg (aCatQ d.K (tVar 1) (tLst (tCons (tTup (tCons (tC (.str "if")) (tCons (tVar 5) (tCons (tLst (tCons (tVar 7) tNil)) (tCons (tLst tNil) tNil))))) tNil))) (gName 1)) tNext)
  (t_l_sided_8 d)))
def t_l_sided (d : Ad) : TS :=
  (tSeq (tAsg (tC (.str "abc")) (gName 4))
  (tSeq (tAsg (tOp rIxS (tVar 4) (aMod (aDiv (tVar 0) (tC (.int 9))) (tC (.int 3)))) (gName 5))
  (tSeq (tAsg (aMod (tVar 0) (tC (.int 3))) (gName 6))
  (tSeq (tIfS (tTest (tOp rEq (tVar 6) (tC (.int 0)))) (tRet (tTup (tCons (tC (.str "if")) (tCons (tVar 5) (tCons (tVar 1) (tCons (tVar 2) tNil)))))) tNext)
  (tSeq (tAsg (tTup (tCons (tC (.str "wait")) tNil)) (gName 7))
  (tSeq (tIfS (tTest (tOp rEq (tVar 6) (tC (.int 2)))) (tAsg (tTup (tCons (tC (.str "throw")) (tCons (tOp (rIxL d.K) (tVar 3) (aMod (aDiv (tVar 0) (tC (.int 27))) (tC (.int 3)))) (tCons (tVar 5) tNil)))) (gName 7)) tNext)
  (t_l_sided_6 d)))))))
abbrev N_l_tree : List Str := ["_law_cells", "_law_depth", "_law_names_here", "_law_tree_here", "_law_at", "_law_cell", "_law_mixed_here", "_law_stops", "_law_many", "_law_more", "_law_one", "_law_other"]
def t_l_tree (n : Nat) (d : Ad) : TS :=
  (tSeq (tAsg (tLst tNil) (gName 3))
  (tSeq (tAsg (tC (.int 0)) (gName 4))
  (tSeq (tWhile (tTest (tOp rLt (tVar 4) (tCB (Evl.rLenS d.K) (tCons (tVar 0) tNil)))) (tSeq (tAsg (tOp (rIxL d.K) (tVar 0) (tVar 4)) (gName 5))
  (tSeq (tAsg (tCall (sp_l_mixed d) [] E0 (tCons (tVar 5) tNil)) (gName 6))
  (tSeq (tAsg (aAdd (tVar 4) (tC (.int 1))) (gName 4))
  (tIfS (tOr (tTest (tOp rEq (tVar 1) (tC (.int 0)))) (tTest (tOp rLt (aMod (tVar 6) (tC (.int 11))) (tC (.int 6))))) (tAsg (aCatQ d.K (tVar 3) (tCall (sp_l_plain d) [] E0 (tCons (aDiv (tVar 6) (tC (.int 11))) (tCons (tVar 5) tNil)))) (gName 3)) (tIfS (tTest (tOp rEq (aMod (tVar 6) (tC (.int 11))) (tC (.int 6)))) (tSeq (tAsg (tLst (tCons (tTup (tCons (tC (.str "wait")) tNil)) (tCons (tTup (tCons (tC (.str "throw")) (tCons (tOp (rIxL d.K) (tVar 2) (aMod (aDiv (tVar 6) (tC (.int 33))) (tC (.int 3)))) (tCons (tOp rIxS (tC (.str "abc")) (aMod (aDiv (tVar 6) (tC (.int 99))) (tC (.int 3)))) tNil)))) tNil))) (gName 7))
  (tDrop (tBM d.K "list" rAppend (tVar 3) (tCons (tOp (rIxL d.K) (tVar 7) (aDiv (aMod (aDiv (tVar 6) (tC (.int 11))) (tC (.int 3))) (tC (.int 2)))) tNil)))) (tSeq (tAsg (aMod (aDiv (tVar 6) (tC (.int 11))) (tC (.int 4))) (gName 8))
  (tSeq (tAsg (aMod (aDiv (tVar 6) (tC (.int 44))) (tC (.int 3))) (gName 9))
  (tSeq (tAsg (tCall (spN_l_tree n d) [] E0 (tCons (tSl (rSlL d.K) (tVar 0) (tPart (tVar 4)) (tPart (aAdd (tVar 4) (tVar 8)))) (tCons (aSub (tVar 1) (tC (.int 1))) (tCons (tVar 2) tNil)))) (gName 10))
  (tSeq (tAsg (tCall (spN_l_tree n d) [] E0 (tCons (tSl (rSlL d.K) (tVar 0) (tPart (aAdd (tVar 4) (tVar 8))) (tPart (aAdd (aAdd (tVar 4) (tVar 8)) (tVar 9)))) (tCons (aSub (tVar 1) (tC (.int 1))) (tCons (tVar 2) tNil)))) (gName 11))
  (tSeq (tAsg (aAdd (aAdd (tVar 4) (tVar 8)) (tVar 9)) (gName 4))
  (tDrop (tBM d.K "list" rAppend (tVar 3) (tCons (tCall (sp_l_sided d) [] E0 (tCons (aDiv (tVar 6) (tC (.int 132))) (tCons (tVar 10) (tCons (tVar 11) (tCons (tVar 2) tNil))))) tNil))))))))))))))
  (tRet (tVar 3)))))
abbrev N_l_made : List Str := ["_law_tree_here", "_law_made_here", "_law_part"]
def t_l_made (n : Nat) (d : Ad) : TS :=
  (tSeq (tAsg (tLst tNil) (gName 1))
  (tSeq (tFor (iList d.K (tVar 0)) (gName 2) (tIfS (tTest (tOp rEq (tOp (rIxT d.K) (tVar 2) (tC (.int 0))) (tC (.str "let")))) (tDrop (tBM d.K "list" rAppend (tVar 1) (tCons (tMake d.cLet (sp_Let_init d) [] E0 (tCons (tOp (rIxT d.K) (tVar 2) (tC (.int 1))) (tCons (tOp (rIxT d.K) (tVar 2) (tC (.int 2))) tNil))) tNil))) (tIfS (tTest (tOp rEq (tOp (rIxT d.K) (tVar 2) (tC (.int 0))) (tC (.str "reckon")))) (tDrop (tBM d.K "list" rAppend (tVar 1) (tCons (tMake d.cReckon (sp_Reckon_init d) [] E0 (tCons (tOp (rIxT d.K) (tVar 2) (tC (.int 1))) (tCons (tOp (rIxT d.K) (tVar 2) (tC (.int 2))) (tCons (tOp (rIxT d.K) (tVar 2) (tC (.int 3))) (tCons (tOp (rIxT d.K) (tVar 2) (tC (.int 4))) tNil))))) tNil))) (tIfS (tTest (tOp rEq (tOp (rIxT d.K) (tVar 2) (tC (.int 0))) (tC (.str "take")))) (tDrop (tBM d.K "list" rAppend (tVar 1) (tCons (tMake d.cTake (sp_Take_init d) [] E0 (tCons (tOp (rIxT d.K) (tVar 2) (tC (.int 1))) (tCons (tOp (rIxT d.K) (tVar 2) (tC (.int 2))) tNil))) tNil))) (tIfS (tTest (tOp rEq (tOp (rIxT d.K) (tVar 2) (tC (.int 0))) (tC (.str "put")))) (tDrop (tBM d.K "list" rAppend (tVar 1) (tCons (tMake d.cPut (sp_Put_init d) [] E0 (tCons (tOp (rIxT d.K) (tVar 2) (tC (.int 1))) (tCons (tOp (rIxT d.K) (tVar 2) (tC (.int 2))) tNil))) tNil))) (tIfS (tTest (tOp rEq (tOp (rIxT d.K) (tVar 2) (tC (.int 0))) (tC (.str "if")))) (tDrop (tBM d.K "list" rAppend (tVar 1) (tCons (tMake d.cIf (sp_If_init d) [] E0 (tCons (tOp (rIxT d.K) (tVar 2) (tC (.int 1))) (tCons (tCall (spN_l_made n d) [] E0 (tCons (tOp (rIxT d.K) (tVar 2) (tC (.int 2))) tNil)) (tCons (tCall (spN_l_made n d) [] E0 (tCons (tOp (rIxT d.K) (tVar 2) (tC (.int 3))) tNil)) tNil)))) tNil))) (tIfS (tTest (tOp rEq (tOp (rIxT d.K) (tVar 2) (tC (.int 0))) (tC (.str "either")))) (tDrop (tBM d.K "list" rAppend (tVar 1) (tCons (tMake d.cEither (sp_Either_init d) [] E0 (tCons (tCall (spN_l_made n d) [] E0 (tCons (tOp (rIxT d.K) (tVar 2) (tC (.int 1))) tNil)) (tCons (tCall (spN_l_made n d) [] E0 (tCons (tOp (rIxT d.K) (tVar 2) (tC (.int 2))) tNil)) tNil))) tNil))) (tIfS (tTest (tOp rEq (tOp (rIxT d.K) (tVar 2) (tC (.int 0))) (tC (.str "try")))) (tDrop (tBM d.K "list" rAppend (tVar 1) (tCons (tMake d.cTry (sp_Try_init d) [] E0 (tCons (tCall (spN_l_made n d) [] E0 (tCons (tOp (rIxT d.K) (tVar 2) (tC (.int 1))) tNil)) (tCons (tOp (rIxT d.K) (tVar 2) (tC (.int 2))) (tCons (tOp (rIxT d.K) (tVar 2) (tC (.int 3))) (tCons (tCall (spN_l_made n d) [] E0 (tCons (tOp (rIxT d.K) (tVar 2) (tC (.int 4))) tNil)) tNil))))) tNil))) (tIfS (tTest (tOp rEq (tOp (rIxT d.K) (tVar 2) (tC (.int 0))) (tC (.str "throw")))) (tDrop (tBM d.K "list" rAppend (tVar 1) (tCons (tMake d.cThrow (sp_Throw_init d) [] E0 (tCons (tOp (rIxT d.K) (tVar 2) (tC (.int 1))) (tCons (tOp (rIxT d.K) (tVar 2) (tC (.int 2))) tNil))) tNil))) (tDrop (tBM d.K "list" rAppend (tVar 1) (tCons (tMakeO d.cWait) tNil))))))))))))
  (tRet (tVar 1))))
local macro_rules | `(tactic| walk_at "callm") => `(tactic| walk_at "mkp")
section
variable {d : Ad} {vs : List V} {H : Hp} {Q : VK} {E : XK}
theorem pure_l_plain (h : sp_l_plain d vs H Q E) : t_l_plain d { nx := fun _ H' => Q .non H', rt := Q } (start N_l_plain vs) H := by
  refine lift_pure h fun ds W Q hp => ?_
  obtain ⟨m, c, rfl, k⟩ := hp
  show WS d.K (t_l_plain d) [some (.raw (.int m)), some (.raw (.int c)), none, none, none, none, none, none, none, none, none] W _
  unfold t_l_plain
  obtain ⟨z, mn, e1, e2, hz, l2, l8⟩ := ab_cut (m := m)
  have zl : z.length ≤ sizeLine := by rw [hz.1, sizeLine_eq]; omega
  walk_at "mgo"
  walk_at "dat"
  refine d_ixL (SeqD.lst _) e1 ?_
  walk_at "mgo"
  refine d_slS (by rw [sizeLine_eq]; decide +kernel) ?_
  rw [e2]
  walk_at "mgo"
  rw [hz.1]
  have pm : 0 < (mn : Int) := by omega
  walk_at "mgo"
  have hcd : ∀ q : Int, CDiv q (mn : Int) := fun q => ⟨pm, by omega⟩
  have h0 : ∀ q : Int, 0 ≤ q % (mn : Int) := fun q => Int.emod_nonneg q (Int.ne_of_gt pm)
  have h1 : ∀ q : Int, q % (mn : Int) < mn := fun q => Int.emod_lt_of_pos q pm
  generalize m / 33 = r
  refine d_ixLet hz l8 (h0 _) (h1 _) fun s1 o1 => ?_
  walk_at "mgo"
  refine d_ixLet hz l8 (h0 _) (h1 _) fun s2 o2 => ?_
  walk_at "mgo"
  refine d_ixLet hz l8 (h0 _) (h1 _) fun s3 o3 => ?_
  walk_at "mgo"
  walk_at "dec"
  · walk_at "mgo"
    refine ⟨c, rfl, ?_⟩
    walk_at "mgo"
    intro p hp
    refine fz_id (ret_frz (W := W) hp (Sub.refl _) ?_)
    have := k [.let_ s1 (c * 982451653 % 2 ^ Int.toNat 64)] (okPs_one ⟨o1, Int.emod_nonneg _ (by decide), Int.emod_lt_of_pos _ (by decide)⟩) (by simp) (by intro p hp; rw [List.mem_singleton.mp hp]; rfl)
    simp only [trsD, trD] at this
    exact this
  · walk_at "mgo"
    walk_at "dec"
    · walk_at "mgo"
      intro p hp
      refine fz_id (ret_frz (W := W) hp (Sub.refl _) ?_)
      have := k [.let_ s1 (r / 1000 % 4)] (okPs_one ⟨o1, by omega, by omega⟩) (by simp) (by intro p hp; rw [List.mem_singleton.mp hp]; rfl)
      simp only [trsD, trD] at this
      exact this
    · walk_at "mgo"
      walk_at "dec"
      · walk_at "mgo"
        walk_at "dat"
        obtain ⟨w, ew, ow⟩ := menuD (l := five) (P := fun w => w ∈ five) (i := r / 1000 % 5) D.str (by omega) (by show r / 1000 % 5 < 5; omega) (fun _ h => h)
        refine d_ixL (SeqD.lst _) ew ?_
        walk_at "mgo"
        intro p hp
        refine fz_id (ret_frz (W := W) hp (Sub.refl _) ?_)
        have := k [.rk w s1 s2 s3] (okPs_one ⟨ow, o1, o2, o3⟩) (by simp) (by intro p hp; rw [List.mem_singleton.mp hp]; rfl)
        simp only [trsD, trD] at this
        exact this
      · walk_at "mgo"
        walk_at "dec"
        · walk_at "mgo"
          intro p hp
          refine fz_id (ret_frz (W := W) hp (Sub.refl _) ?_)
          have := k [.take s1 s2] (okPs_one ⟨o1, o2⟩) (by simp) (by intro p hp; rw [List.mem_singleton.mp hp]; rfl)
          simp only [trsD, trD] at this
          exact this
        · walk_at "mgo"
          walk_at "dec"
          · walk_at "mgo"
            intro p hp
            refine fz_id (ret_frz (W := W) hp (Sub.refl _) ?_)
            have := k [.put s1 s2] (okPs_one ⟨o1, o2⟩) (by simp) (by intro p hp; rw [List.mem_singleton.mp hp]; rfl)
            simp only [trsD, trD] at this
            exact this
          · walk_at "mgo"
            walk_at "dat"
            obtain ⟨w, ew, ow⟩ := menuD (l := (["plus", "minus", "times"] : List Str)) (P := fun w => w ∈ five) (i := r / 1000 % 3) D.str (by omega) (by show r / 1000 % 3 < 3; omega) (fun w h => by
              simp only [List.mem_cons, List.not_mem_nil, or_false] at h
              rcases h with rfl | rfl | rfl <;> simp [five])
            refine d_ixL (SeqD.lst _) ew ?_
            walk_at "mgo"
            walk_at "dat"
            walk_at "dat"
            intro p hp
            refine fz_id (ret_frz (W := W) hp (Sub.refl _) ?_)
            have := k [.let_ s1 (r / 3000 % 3), .take s2 s1, .rk w s2 s2 s3, .put s1 s2] (by simp only [okPs]; exact ⟨⟨o1, by omega, by omega⟩, ⟨o2, o1⟩, ⟨ow, o2, o2, o3⟩, ⟨o1, o2⟩, trivial⟩) (by simp) (by
              intro p hp
              simp only [List.mem_cons, List.not_mem_nil, or_false] at hp
              rcases hp with rfl | rfl | rfl | rfl <;> rfl)
            simp only [trsD, trD] at this
            exact this
theorem sided_tail {W : Wd} {Q : KD} {m : Int} {z : D} {ps os : List Pt} {nm : List Str} {sl : Str} {w : Int} {st : Pt} (hz : SeqD W z (nm.map D.str)) (hnm : Names nm) (ok1 : okPs ps) (ok2 : okPs os) (l1 : lenPs ps ≤ 1000) (osl : Sl sl) (oks : okP st) (ls : lenP st = 1) (nd : ndP st = 1)
    (k : ∀ p : Pt, okP p → lenP p ≤ 6 + lenPs ps + lenPs os → ndP p ≤ 3 + max 4 (max (ndPs ps) (ndPs os)) → Q (trD p) W) :
    WS d.K (t_l_sided_6 d) [some (.raw (.int m)), some (.lst (trsD ps)), some (.lst (trsD os)), some z, some (.raw (.str "abc")), some (.raw (.str sl)), some (.raw (.int w)), some (trD st)] W ⟨fun _ W' => Q .non W', Q, fun _ _ => False, fun _ _ => False⟩ := by
  unfold t_l_sided_6
  have b1 : (trsD ps).length ≤ 1000 := by have := len_lenP ps; rw [trsD_len]; omega
  have fin : ∀ ex : List Pt, okPs ex → lenPs ex ≤ 3 → ndPs ex ≤ 4 →
      WS d.K (t_l_sided_8 d) [some (.raw (.int m)), some (.lst (trsD (ps ++ ex))), some (.lst (trsD os)), some z, some (.raw (.str "abc")), some (.raw (.str sl)), some (.raw (.int w)), some (trD st)] W ⟨fun _ W' => Q .non W', Q, fun _ _ => False, fun _ _ => False⟩ := by
    intro ex oke le ne
    unfold t_l_sided_8
    walk_at "mgo"
    walk_at "dec"
    · walk_at "mgo"
      have := k (.eith (ps ++ ex) os) ⟨okPs_app ok1 oke, ok2⟩ (by simp only [lenP, lenPs_app]; omega) (by simp only [ndP, ndPs_app]; omega)
      rw [trD] at this
      exact ret_dat (Sub.refl _) this
    · walk_at "mgo"
      obtain ⟨n1, e1, o1⟩ := menuD (l := nm) (P := NameOk) (i := m / 81 % 3) D.str (by omega) (by rw [hnm.len]; show m / 81 % 3 < 3; omega) hnm.ok
      refine d_ixL hz e1 ?_
      walk_at "mgo"
      refine d_ixLet abc_letters (by decide) (by omega) (by omega) fun s2 os2 => ?_
      walk_at "mgo"
      have := k (.tryy (ps ++ ex) n1 s2 os) ⟨okPs_app ok1 oke, o1, os2, ok2⟩ (by simp only [lenP, lenPs_app]; omega) (by simp only [ndP, ndPs_app]; omega)
      rw [trD] at this
      exact ret_dat (Sub.refl _) this
  walk_at "mgo"
  walk_at "dec"
  · rename_i hc
    walk_at "mgo"
    walk_at "dat"
    walk_at "dat"
    rw [hc]
    walk_at "mgo"
    have := fin [st] (okPs_one oks) (by simp only [lenPs]; omega) (by simp only [ndPs]; omega)
    rw [trsD_app] at this
    simp only [trsD] at this
    exact this
  · walk_at "mgo"
    walk_at "dec"
    · walk_at "mgo"
      walk_at "dat"
      walk_at "dat"
      walk_at "dat"
      walk_at "dat"
      have := fin [.iff sl [st] []] (okPs_one ⟨osl, okPs_one oks, trivial⟩) (by simp only [lenPs, lenP]; omega) (by simp only [ndPs, ndP]; omega)
      rw [trsD_app] at this
      simp only [trsD, trD] at this
      exact this
    · walk_at "mgo"
      have := fin [] trivial (by simp only [lenPs]; omega) (by simp only [ndPs]; omega)
      rw [List.append_nil] at this
      exact this
theorem pure_l_sided (h : sp_l_sided d vs H Q E) : t_l_sided d { nx := fun _ H' => Q .non H', rt := Q } (start N_l_sided vs) H := by
  refine lift_pure h fun ds W Q hp => ?_
  obtain ⟨m, z, ps, os, rfl, nm, hz, hnm, ok1, ok2, l1, l2, k⟩ := hp
  show WS d.K (t_l_sided d) [some (.raw (.int m)), some (.lst (trsD ps)), some (.lst (trsD os)), some z, none, none, none, none] W _
  unfold t_l_sided
  walk_at "mgo"
  refine d_ixLet abc_letters (by decide) (by omega) (by omega) fun sl osl => ?_
  walk_at "mgo"
  walk_at "dec"
  · walk_at "mgo"
    have := k (.iff sl ps os) ⟨osl, ok1, ok2⟩ (by simp only [lenP]; omega) (by simp only [ndP]; omega)
    rw [trD] at this
    exact ret_dat (Sub.refl _) this
  · walk_at "mgo"
    walk_at "dec"
    · walk_at "mgo"
      obtain ⟨n1, e1, o1⟩ := menuD (l := nm) (P := NameOk) (i := m / 27 % 3) D.str (by omega) (by rw [hnm.len]; show m / 27 % 3 < 3; omega) hnm.ok
      refine d_ixL hz e1 ?_
      walk_at "mgo"
      have := sided_tail (d := d) (m := m) (w := m % 3) (st := .throw n1 sl) hz hnm ok1 ok2 l1 osl ⟨o1, osl⟩ (by simp [lenP]) (by simp [ndP]) k
      rw [trD] at this
      exact this
    · walk_at "mgo"
      have := sided_tail (d := d) (m := m) (w := m % 3) (st := .wait) hz hnm ok1 ok2 l1 osl trivial (by simp [lenP]) (by simp [ndP]) k
      rw [trD] at this
      exact this
theorem pure_l_made {n : Nat} (h : spN_l_made (n + 1) d vs H Q E) : t_l_made n d { nx := fun _ H' => Q .non H', rt := Q } (start N_l_made vs) H := by
  refine lift_pure h fun ds W Q hp => ?_
  obtain ⟨x, rfl, ps, hx, hlen, hl, hnd, k⟩ := hp
  show WS d.K (t_l_made n d) [some x, none, none] W _
  unfold t_l_made
  walk_at "mgo"
  intro R hR
  refine fz_id ?_
  walk_at "mgo"
  refine ⟨fun i e W' => e = [some x, some (.ptr R), none] ∧ W' = wset W R (.lst (psD d (ps.take i))), nx_id ⟨rfl, by simp [psD]⟩, ?_, ?_, ?_⟩
  · rintro i e' W' hi ⟨rfl, rfl⟩
    exact hx.er (Sub.new (Sub.refl _) hR)
  · rintro i u e' W' hi hu ⟨rfl, rfl⟩
    obtain ⟨p, hp, rfl⟩ := trsD_get hu
    have g1 := lenP_mem hp
    have g2 := ndP_mem hp
    have g3 : (psD d (ps.take i)).length ≤ 1000 := by rw [psD_len, List.length_take]; omega
    have g4 : psD d (ps.take (i + 1)) = psD d (ps.take i) ++ [pD d p] := by
      rw [psD_map, psD_map, List.take_succ, hp, List.map_append]; rfl
    have fin : ∀ e' W', EnvLe [some x, some (.ptr R), none] e' → Sub (wset W R (.lst (psD d (ps.take i) ++ [pD d p]))) W' → Nx ((fun i e W' => e = [some x, some (.ptr R), none] ∧ W' = wset W R (.lst (psD d (ps.take i)))) (i + 1)) e' W' := fun e' W' l m => nx_of l (g4 ▸ m) ⟨rfl, rfl⟩
    generalize (fun i e W' => e = [some x, some (D.ptr R), none] ∧ W' = wset W R (Cell.lst (psD d (ps.take i)))) = PP at fin ⊢
    cases p with
    | iff s qs os =>
      simp only [lenP, ndP] at g1 g2
      have j1 := len_lenP qs
      have j2 := len_lenP os
      rw [trD]
      walk_at "mgo"
      refine ⟨_, rfl, qs, SeqD.lst _, by omega, by omega, by omega, ?_⟩
      walk_at "mgo"
      refine ⟨_, rfl, os, SeqD.lst _, by omega, by omega, by omega, ?_⟩
      walk_at "mgo"
      refine ⟨_, _, _, qs, os, rfl, SeqD.lst _, SeqD.lst _, ?_⟩
      walk_at "mgo"
      exact fin _ _ (by walk_at "le") (by walk_at "sub")
    | eith qs os =>
      simp only [lenP, ndP] at g1 g2
      have j1 := len_lenP qs
      have j2 := len_lenP os
      rw [trD]
      walk_at "mgo"
      refine ⟨_, rfl, qs, SeqD.lst _, by omega, by omega, by omega, ?_⟩
      walk_at "mgo"
      refine ⟨_, rfl, os, SeqD.lst _, by omega, by omega, by omega, ?_⟩
      walk_at "mgo"
      refine ⟨_, _, qs, os, rfl, SeqD.lst _, SeqD.lst _, ?_⟩
      walk_at "mgo"
      exact fin _ _ (by walk_at "le") (by walk_at "sub")
    | tryy qs m s os =>
      simp only [lenP, ndP] at g1 g2
      have j1 := len_lenP qs
      have j2 := len_lenP os
      rw [trD]
      walk_at "mgo"
      refine ⟨_, rfl, qs, SeqD.lst _, by omega, by omega, by omega, ?_⟩
      walk_at "mgo"
      refine ⟨_, rfl, os, SeqD.lst _, by omega, by omega, by omega, ?_⟩
      walk_at "mgo"
      refine ⟨_, _, _, _, qs, os, rfl, SeqD.lst _, SeqD.lst _, ?_⟩
      walk_at "mgo"
      exact fin _ _ (by walk_at "le") (by walk_at "sub")
    | _ =>
      rw [trD]
      walk_at "mgo"
      exact fin _ _ (by walk_at "le") (by walk_at "sub")
  · rintro e' W' ⟨rfl, rfl⟩
    walk_at "mgo"
    have : (itS x (trsD ps)).n = ps.length := trsD_len ps
    rw [this, List.take_length]
    exact ret_frz hR (Sub.refl _) k
def treeInv (x : D) (k : Nat) (z : D) (ns : List Int) (W : Wd) (m : Nat) (e : Env) (W' : Wd) : Prop := ∃ (R : Addr) (ps : List Pt) (a : Nat), W R = none ∧ e = [some x, some (.raw (.int k)), some z, some (.ptr R), some (.raw (.int (a : Nat))), none, none, none, none, none, none, none] ∧ W' = wset W R (.lst (trsD ps)) ∧ okPs ps ∧ lenPs ps ≤ 6 * min a ns.length ∧ ndPs ps ≤ 4 + 3 * k ∧ m = ns.length - a
theorem pure_l_tree {n : Nat} (h : spN_l_tree (n + 1) d vs H Q E) : t_l_tree n d { nx := fun _ H' => Q .non H', rt := Q } (start N_l_tree vs) H := by
  refine lift_pure h fun ds W Q hp => ?_
  obtain ⟨x, k, z, rfl, ns, nm, hx, hlen, hz, hnm, hk, kk⟩ := hp
  show WS d.K (t_l_tree n d) [some x, some (.raw (.int k)), some z, none, none, none, none, none, none, none, none, none] W _
  unfold t_l_tree
  walk_at "mgo"
  intro R hR
  refine fz_id ?_
  walk_at "mgo"
  refine ws_while (treeInv x k z ns W) (m := ns.length) (nx_id ⟨R, [], 0, hR, rfl, rfl, trivial, by simp [lenPs], by simp [ndPs], by omega⟩) ?_
  rintro m e' W' ⟨R, ps, a, hR, rfl, rfl, ok, hl, hn, rfl⟩
  have b1 : (trsD ps).length ≤ 1000 := by have := len_lenP ps; rw [trsD_len]; omega
  walk_at "mgo"
  rw [List.length_map]
  walk_at "dec"
  · rename_i hc
    have ha : a < ns.length := by omega
    walk_at "mgo"
    refine d_ixL (by walk_at "sd") (atI_nat (v := D.int ns[a]) (by rw [List.getElem?_map, List.getElem?_eq_getElem ha]; rfl)) ?_
    walk_at "mgo"
    refine ⟨_, rfl, ?_⟩
    generalize ns[a] * 48271 % 999999999989 = mx
    walk_at "mgo"
    rw [show ((a : Int) + 1) = ((a + 1 : Nat) : Int) from rfl]
    have fin : ∀ (e' : Env) (W' : Wd) (R2 : Addr) (qs : List Pt) (b : Nat), W R2 = none → EnvLe [some x, some (.raw (.int k)), some z, some (.ptr R2), some (.raw (.int (b : Nat))), none, none, none, none, none, none, none] e' → Sub (wset W R2 (.lst (trsD ps ++ trsD qs))) W' → a < b → okPs qs → lenPs qs ≤ 6 * (min b ns.length - a) → ndPs qs ≤ 4 + 3 * k →
        ∃ m', m' < ns.length - a ∧ Nx (treeInv x k z ns W m') e' W' := by
      intro e' W' R2 qs b h1 h2 h3 h4 h5 h6 h7
      refine ⟨ns.length - b, by omega, nx_of h2 h3 ⟨R2, ps ++ qs, b, h1, rfl, by rw [trsD_app], okPs_app ok h5, ?_, ?_, rfl⟩⟩
      · rw [lenPs_app]; omega
      · rw [ndPs_app]; omega
    walk_at "dec"
    · walk_at "mgo"
      refine ⟨_, _, rfl, fun qs okq lq pq => ?_⟩
      have b2 : (trsD qs).length ≤ 4 := by rw [trsD_len]; exact lq
      have b3 := plains_len pq
      have b4 := plains_nd pq
      walk_at "mgo"
      intro p hp
      refine fz_id ?_
      walk_at "mgo"
      exact fin _ _ p qs (a + 1) (by walk_at "wn") (by walk_at "le") (by walk_at "sub") (by omega) okq (by omega) (by omega)
    · walk_at "mgo"
      walk_at "dec"
      · walk_at "mgo"
        refine ⟨_, _, rfl, fun qs okq lq pq => ?_⟩
        have b2 : (trsD qs).length ≤ 4 := by rw [trsD_len]; exact lq
        have b3 := plains_len pq
        have b4 := plains_nd pq
        walk_at "mgo"
        intro p hp
        refine fz_id ?_
        walk_at "mgo"
        exact fin _ _ p qs (a + 1) (by walk_at "wn") (by walk_at "le") (by walk_at "sub") (by omega) okq (by omega) (by omega)
      · rename_i hk0 hk1
        obtain ⟨k', rfl⟩ : ∃ k', k = k' + 1 := ⟨k - 1, by omega⟩
        walk_at "mgo"
        walk_at "dec"
        · walk_at "mgo"
          obtain ⟨n1, e1, o1⟩ := menuD (l := nm) (P := NameOk) (i := mx / 33 % 3) D.str (by omega) (by rw [hnm.len]; show mx / 33 % 3 < 3; omega) hnm.ok
          refine d_ixL (by walk_at "sd") e1 ?_
          walk_at "mgo"
          refine d_ixLet abc_letters (by decide) (by omega) (by omega) fun s2 os2 => ?_
          walk_at "mgo"
          walk_at "dat"
          obtain ⟨p1, e2, o2, o3, o4⟩ := menuD (l := [Pt.wait, .throw n1 s2]) (P := fun p => okP p ∧ lenP p = 1 ∧ ndP p = 1) (i := mx / 11 % 3 / 2) trD (by omega) (by show mx / 11 % 3 / 2 < 2; omega) (fun p hp => by
            simp only [List.mem_cons, List.not_mem_nil, or_false] at hp
            rcases hp with rfl | rfl
            · exact ⟨trivial, by simp [lenP], by simp [ndP]⟩
            · exact ⟨⟨o1, os2⟩, by simp [lenP], by simp [ndP]⟩)
          refine d_ixL (SeqD.lst _) (by simp only [List.map_cons, List.map_nil, trD] at e2; exact e2) ?_
          walk_at "mgo"
          exact fin _ _ R [p1] (a + 1) hR (by walk_at "le") (by simp only [trsD]; walk_at "sub") (by omega) (okPs_one o2) (by simp only [lenPs]; omega) (by simp only [ndPs]; omega)
        · walk_at "mgo"
          obtain ⟨mn, e3, b3⟩ : ∃ q : Nat, mx / 11 % 4 = (q : Int) ∧ q < 4 := ⟨(mx / 11 % 4).toNat, by omega, by omega⟩
          obtain ⟨mr, e4, b4⟩ : ∃ q : Nat, mx / 44 % 3 = (q : Int) ∧ q < 3 := ⟨(mx / 44 % 3).toNat, by omega, by omega⟩
          rw [e3, e4, cutD_map]
          rw [show (((a + 1 : Nat) : Int) + (mn : Nat)) = ((a + 1 + mn : Nat) : Int) from rfl]
          walk_at "dat"
          have c1 := cutD_len ns (a + 1) (a + 1 + mn)
          have c2 := cutD_len ns (a + 1 + mn) (a + 1 + mn + mr)
          have ek : ((k' + 1 : Nat) : Int) - 1 = (k' : Nat) := by omega
          rw [ek]
          refine ⟨_, k', _, rfl, _, nm, SeqD.lst _, by omega, by walk_at "sd", hnm, by omega, fun q1 ok1 l1 n1 => ?_⟩
          walk_at "mgo"
          rw [cutD_map, show (((a + 1 : Nat) : Int) + (mn : Nat)) = ((a + 1 + mn : Nat) : Int) from rfl, show (((a + 1 + mn : Nat) : Int) + (mr : Nat)) = ((a + 1 + mn + mr : Nat) : Int) from rfl]
          walk_at "dat"
          rw [ek]
          refine ⟨_, k', _, rfl, _, nm, SeqD.lst _, by omega, by walk_at "sd", hnm, by omega, fun q2 ok2 l2 n2 => ?_⟩
          walk_at "mgo"
          refine ⟨_, _, q1, q2, rfl, nm, by walk_at "sd", hnm, ok1, ok2, by omega, by omega, fun p okp lp np => ?_⟩
          walk_at "mgo"
          exact fin _ _ R [p] (a + 1 + mn + mr) hR (by walk_at "le") (by simp only [trsD]; walk_at "sub") (by omega) (okPs_one okp) (by simp only [lenPs]; omega) (by simp only [ndPs]; omega)
  · walk_at "mgo"
    exact ret_frz hR (Sub.refl _) (kk ps ok (by omega) hn)
end
end RT

set_option Elab.async false
set_option linter.all false
set_option maxRecDepth 100000
set_option maxHeartbeats 400000
set_option autoImplicit false
namespace RT
open PySem L2
local macro_rules | `(tactic| walk_at "putf") => `(tactic| first | exact putF_nil | exact putF_hit | exact putF_miss (by decide) (by walk_at "putf"))
local macro_rules | `(tactic| walk_at "ne") => `(tactic| first | assumption | exact Ne.symm (by assumption) | ((refine' ne2 ?h1 ?h2); (case h1 => assumption); (case h2 => walk_at "hk")) | ((refine' ne2s ?h1 ?h2); (case h1 => assumption); (case h2 => walk_at "hk")) | exact ne_head (by assumption) | exact ne_of (by assumption) (by assumption) (by intro z; cases z))
local macro_rules | `(tactic| walk_at "hk") => `(tactic| first | assumption | with_reducible exact upd_same | ((with_reducible refine' up_ne ?h1 ?h2); (case h1 => walk_at "ne"); (case h2 => walk_at "hk")) | ((with_reducible refine' ex_at ?h1 ?h2); (case h1 => assumption); (case h2 => walk_at "hk")))
local macro_rules | `(tactic| walk_at "kit") => `(tactic| first | exact kit_int_int | exact kit_int_bool | exact kit_int_str | exact kit_int_list | exact kit_int_tuple | exact kit_int_dict | exact kit_bool_int | exact kit_bool_bool | exact kit_bool_str | exact kit_bool_list | exact kit_bool_tuple | exact kit_bool_dict | exact kit_str_int | exact kit_str_bool | exact kit_str_str | exact kit_str_list | exact kit_str_tuple | exact kit_str_dict | exact kit_NoneType_int | exact kit_NoneType_bool | exact kit_NoneType_str | exact kit_NoneType_list | exact kit_NoneType_tuple | exact kit_NoneType_dict | exact kit_list_int | exact kit_list_bool | exact kit_list_str | exact kit_list_list | exact kit_list_tuple | exact kit_list_dict | exact kit_tuple_int | exact kit_tuple_bool | exact kit_tuple_str | exact kit_tuple_list | exact kit_tuple_tuple | exact kit_tuple_dict | exact kit_dict_int | exact kit_dict_bool | exact kit_dict_str | exact kit_dict_list | exact kit_dict_tuple | exact kit_dict_dict)
local macro_rules | `(tactic| walk_at "sq") => `(tactic| first | assumption | ((with_reducible refine' SqL.of ?h); (case h => walk_at "hk")) | ((with_reducible refine' ex_sq ?h1 ?h2); (case h1 => assumption); (case h2 => walk_at "sq")))
local macro_rules | `(tactic| walk_at "st") => `(tactic| first | assumption | ((with_reducible refine' SqT.of ?h); (case h => walk_at "hk")) | ((with_reducible refine' ex_st ?h1 ?h2); (case h1 => assumption); (case h2 => walk_at "st")))
local macro_rules | `(tactic| walk_at "new") => `(tactic| (intro p hp; generalize hU : upd _ p _ = H'; have e1 := new_ex hp hU; have e2 := new_at hU; clear hU))
local macro_rules | `(tactic| walk_at "set") => `(tactic| ((try simp only [List.set_cons_succ, List.set_cons_zero]); rfl))
local macro_rules | `(tactic| walk_at "small") => `(tactic| first | assumption | (rw [sizeLine_eq]; (try simp only [List.length_cons, List.length_nil, str_len_app, sign_len]); omega) | (with_unfolding_all decide))
local macro_rules | `(tactic| walk_at "sc") => `(tactic| first | assumption | decide | omega | (unfold CMul; omega) | (unfold CDiv; omega) | (unfold CPow; decide) | (unfold CDiv; decide))
local macro_rules | `(tactic| walk_at "step") => `(tactic| first
  | with_reducible refine' w_seq ?_
  | with_reducible refine' w_op ?_
  | ((with_reducible refine' w_var ?h ?_); (case h => rfl))
  | with_reducible refine' w_c ?_
  | with_reducible refine' w_i0 ?_
  | with_reducible refine' w_cons ?_
  | with_reducible refine' w_nil ?_
  | with_reducible refine' w_asg ?_
  | ((with_reducible refine' w_gn ?e ?_); (case e => walk_at "set"))
  | with_reducible refine' w_ifS ?_
  | with_reducible refine' w_test ?_
  | with_reducible refine' w_tB ?_
  | with_reducible refine' w_bl ?_
  | with_reducible refine' w_int ?_
  | with_reducible refine' w_ref ?_
  | with_reducible refine' w_str ?_
  | with_reducible refine' w_eqI ?_
  | with_reducible refine' w_neI ?_
  | with_reducible refine' w_eqS ?_
  | with_reducible refine' w_neS ?_
  | with_reducible refine' w_ret ?_
  | with_reducible refine' w_for ?_
  | with_reducible refine' w_tFld ?_
  | ((with_reducible refine' w_fld ?h ?c ?n ?l ?_); (case h => walk_at "hk"); (case c => assumption); (case n => assumption); (case l => rfl))
  | with_reducible refine' w_sFld ?_
  | ((with_reducible refine' w_rsFld ?h ?c ?n ?l ?e ?_); (case h => walk_at "hk"); (case c => assumption); (case n => assumption); (case e => walk_at "putf"); (case l => (simp only [List.length_cons, List.length_nil]; omega)))
  | with_reducible refine' w_tDGet ?_
  | with_reducible refine' w_tDIn ?_
  | with_reducible refine' w_tDNotIn ?_
  | ((with_reducible refine' w_dinI ?h ?_); (case h => walk_at "hk"))
  | with_reducible refine' w_sDPut ?_
  | with_reducible refine' w_bm ?_
  | with_reducible refine' w_bm0 ?_
  | ((with_reducible refine' w_tyL ?h ?_); (case h => walk_at "sq"))
  | with_reducible refine' w_iRev ?_
  | ((with_reducible refine' w_rev1 ?h ?_); (case h => walk_at "sq"))
  | with_reducible refine' w_iItems ?_
  | with_reducible refine' w_iKeys ?_
  | with_reducible refine' w_iRng3 ?_
  | with_reducible refine' w_iZip ?_
  | with_reducible refine' w_gCons ?_
  | with_reducible refine' w_gNil ?_
  | ((with_reducible refine' w_gTup ?h ?l ?_); (case h => walk_at "st"); (case l => rfl))
  | with_reducible refine' w_m1 ?_
  | with_reducible refine' w_isS ?_
  | with_reducible refine' w_lc ?_
  | with_reducible refine' w_iList ?_
  | with_reducible refine' w_iTup ?_
  | with_reducible refine' w_iStr ?_
  | with_reducible refine' w_iRng1 ?_
  | with_reducible refine' w_iRng2 ?_
  | with_reducible refine' w_v1I ?_
  | with_reducible refine' w_v2I ?_
  | with_reducible refine' w_next ?_
  | with_reducible refine' w_call ?_
  | with_reducible refine' w_cb ?_
  | with_reducible refine' w_and ?_
  | with_reducible refine' w_or ?_
  | with_reducible refine' w_not ?_
  | with_reducible refine' w_andV ?_
  | with_reducible refine' w_orV ?_
  | with_reducible refine' w_notV ?_
  | with_reducible refine' w_ifE ?_
  | with_reducible refine' w_drop ?_
  | with_reducible refine' w_un ?_
  | with_reducible refine' w_u ?_
  | with_reducible refine' w_isNN ?_
  | with_reducible refine' w_isNI ?_
  | with_reducible refine' w_isNS ?_
  | with_reducible refine' w_isNR ?_
  | with_reducible refine' w_notNN ?_
  | with_reducible refine' w_notNI ?_
  | with_reducible refine' w_notNS ?_
  | with_reducible refine' w_notNR ?_
  | with_reducible refine' w_int1 ?_
  | with_reducible refine' w_int1b ?_
  | with_reducible refine' w_tup ?_
  | with_reducible refine' w_lst ?_
  | with_reducible refine' w_dnew ?_
  | with_reducible refine' w_sl ?_
  | with_reducible refine' w_noPart ?_
  | with_reducible refine' w_part ?_
  | with_reducible refine' w_retN ?_
  | with_reducible refine' w_brk ?_
  | with_reducible refine' w_cont ?_
  | with_reducible refine' w_chain ?_
  | with_reducible refine' w_lt ?_
  | with_reducible refine' w_le ?_
  | with_reducible refine' w_gt ?_
  | with_reducible refine' w_ge ?_
  | with_reducible refine' w_ltS ?_
  | with_reducible refine' w_leS ?_
  | with_reducible refine' w_gtS ?_
  | with_reducible refine' w_geS ?_
  | ((with_reducible refine' w_addS ?h ?_); (case h => walk_at "small"))
  | with_reducible refine' w_inS ?_
  | with_reducible refine' w_ninS ?_
  | with_reducible refine' w_par ?_
  | with_reducible refine' w_v2 ?_
  | with_reducible refine' w_max2 ?_
  | with_reducible refine' w_min2 ?_
  | with_reducible refine' w_tru ?_
  | with_reducible refine' w_meth ?_
  | ((with_reducible refine' w_meth1 ?h ?l ?_); (case h => walk_at "hk"); (case l => rfl))
  | with_reducible refine' w_make ?_
  | ((with_reducible refine' w_isiI ?h ?_); (case h => walk_at "kit"))
  | ((with_reducible refine' w_isiB ?h ?_); (case h => walk_at "kit"))
  | ((with_reducible refine' w_isiN ?h ?_); (case h => walk_at "kit"))
  | ((with_reducible refine' w_isiS ?h ?_); (case h => walk_at "kit"))
  | ((with_reducible refine' w_isiSL ?h ?e ?_); (case h => walk_at "sq"); (case e => walk_at "kit"))
  | ((with_reducible refine' w_isiST ?h ?e ?_); (case h => walk_at "st"); (case e => walk_at "kit"))
  | ((with_reducible refine' w_i ?h ?_); (case h => walk_at "sc"))
  | with_reducible refine' w_ttL ?_
  | with_reducible refine' w_ffL ?_
  | ((with_reducible refine' w_tt ?h ?_); (case h => first | exact dB_t (by decide) | exact nB_t (by decide) | decide))
  | ((with_reducible refine' w_ff ?h ?_); (case h => first | exact dB_f (by decide) | exact nB_f (by decide) | decide))
  | ((with_reducible refine' w_lenS ?h ?_); (case h => walk_at "sq"))
  | ((with_reducible refine' w_lenT ?h ?_); (case h => walk_at "st"))
  | ((with_reducible refine' w_slL ?h ?_); (case h => walk_at "sq"))
  | ((with_reducible refine' w_aug ?h ?_); (case h => rfl))
  | with_reducible refine' w_ip ?_
  | ((with_reducible refine' w_cat ?h1 ?h2 ?h3 ?_); (case h1 => walk_at "hk"); (case h2 => walk_at "hk"); (case h3 => walk_at "small"))
  | ((with_reducible refine' w_ixL ?h1 ?h2 ?_); (case h1 => walk_at "sq"); (case h2 => rfl))
  | ((with_reducible refine' w_ixT ?h1 ?h2 ?_); (case h1 => walk_at "st"); (case h2 => rfl))
  | ((with_reducible refine' w_lenStr ?h ?_); (case h => walk_at "small"))
  | ((with_reducible refine' w_slS ?h ?_); (case h => walk_at "small"))
  | ((with_reducible refine' w_sz ?h ?_); (case h => walk_at "small")))
local macro_rules | `(tactic| walk_at "go") => `(tactic| (repeat (first | walk_at "step" | walk_at "callx")))
local macro_rules | `(tactic| walk_at "goN") => `(tactic| (repeat (first | walk_at "step" | walk_at "callx" | ((with_reducible show ∀ p, _ = none → _); walk_at "new"))))
local macro_rules | `(tactic| walk_at "len") => `(tactic| first
  | (obtain ⟨rfl, _⟩ := h; rfl) | (obtain ⟨_, rfl, _⟩ := h; rfl) | (obtain ⟨_, _, rfl, _⟩ := h; rfl) | (obtain ⟨_, _, _, rfl, _⟩ := h; rfl) | (obtain ⟨_, _, _, _, rfl, _⟩ := h; rfl)
  | (obtain ⟨_, _, _, _, _, rfl, _⟩ := h; rfl) | (obtain ⟨_, _, _, _, _, _, rfl, _⟩ := h; rfl) | (obtain ⟨_, _, _, _, _, _, _, rfl, _⟩ := h; rfl) | (obtain ⟨_, _, _, _, _, _, _, _, rfl, _⟩ := h; rfl)
  | (obtain ⟨_, _, _, _, _, _, _, _, _, rfl, _⟩ := h; rfl) | (obtain ⟨_, _, _, _, _, _, _, _, _, _, rfl, _⟩ := h; rfl))
local macro_rules | `(tactic| walk_at "dec") => `(tactic| (first | with_reducible apply w_dec | with_reducible apply w_ndec | with_reducible apply w_bool) <;> intro hc)
local macro_rules | `(tactic| walk_at "msm") => `(tactic| first | with_reducible assumption | (rw [sizeLine_eq]; (try simp only [List.length_cons, List.length_nil, List.length_append, List.length_map, List.length_set, str_len_app, sign_len]); omega))
local macro_rules | `(tactic| walk_at "wne") => `(tactic| first | with_reducible assumption | exact Ne.symm (by with_reducible assumption) | ((refine' ne_w2 ?h2 ?h1); (case h2 => with_reducible assumption); (case h1 => walk_at "wk")) | ((refine' ne_w2s ?h2 ?h1); (case h2 => with_reducible assumption); (case h1 => walk_at "wk")))
local macro_rules | `(tactic| walk_at "wk") => `(tactic| first | with_reducible assumption | with_reducible exact ws_same | ((with_reducible refine' ws_lk ?h1 ?h2); (case h1 => walk_at "wne"); (case h2 => walk_at "wk")) | ((with_reducible refine' we_lk ?h1 ?h2); (case h1 => walk_at "wne"); (case h2 => walk_at "wk")))
local macro_rules | `(tactic| walk_at "sd") => `(tactic| first | with_reducible assumption | with_reducible exact SeqD.lst _ | with_reducible exact SeqD.scr _ | ((with_reducible refine' SeqD.own ?h); (case h => walk_at "wk")) | ((with_reducible refine' SeqD.er ?m ?h); (case h => with_reducible assumption); (case m => walk_at "sub")))
local macro_rules | `(tactic| walk_at "cd") => `(tactic| first | with_reducible assumption | with_reducible exact CatD.lst _ | ((with_reducible refine' CatD.own ?h); (case h => walk_at "wk")))
local macro_rules | `(tactic| walk_at "dd") => `(tactic| first | with_reducible assumption | ((with_reducible refine' DctD.own ?h); (case h => walk_at "wk")) | ((with_reducible refine' DctD.lock ?h); (case h => walk_at "wk")))
local macro_rules | `(tactic| walk_at "le") => `(tactic| repeat (first | exact EnvLe.nil | exact EnvLe.refl _ | with_reducible refine' EnvLe.cons (.inl rfl) ?_ | with_reducible refine' EnvLe.cons (.inr rfl) ?_))
local macro_rules | `(tactic| walk_at "sub") => `(tactic| first | with_reducible assumption | exact Sub.refl _ | ((with_reducible refine' Sub.set ?h1); (case h1 => walk_at "sub")) | ((with_reducible refine' Sub.new ?h1 ?h2); (case h2 => walk_at "wn"); (case h1 => walk_at "sub")))
local macro_rules | `(tactic| walk_at "wn") => `(tactic| first | with_reducible assumption | ((with_reducible refine' ws_non ?h); (case h => with_reducible assumption)) | ((with_reducible refine' ws_non (ws_non ?h)); (case h => with_reducible assumption)) | ((with_reducible refine' ws_non (ws_non (ws_non ?h))); (case h => with_reducible assumption)))
local macro_rules | `(tactic| walk_at "own") => `(tactic| first | ((with_reducible refine' own_name ?h); (case h => decide)) | ((with_reducible refine' own_tup ?h); (case h => walk_at "own")) | ((with_reducible refine' own_cons ?h1 ?h2); (case h1 => walk_at "own"); (case h2 => walk_at "own")) | with_reducible exact own_nil)
local macro_rules | `(tactic| walk_at "mputf") => `(tactic| first | exact putD_nil | exact putD_hit | exact putD_miss (by decide) (by walk_at "mputf"))
local macro_rules | `(tactic| walk_at "mst") => `(tactic| first
  | with_reducible refine' ws_seq ?_
  | with_reducible refine' we_op ?_
  | ((with_reducible refine' we_var ?h ?_); (case h => rfl))
  | with_reducible refine' we_c ?_
  | with_reducible refine' d_i0 ?_
  | with_reducible refine' wa_cons ?_
  | with_reducible refine' wa_nil ?_
  | with_reducible refine' ws_asg ?_
  | ((with_reducible refine' wg_name ?e ?_); (case e => walk_at "set"))
  | with_reducible refine' ws_if ?_
  | with_reducible refine' we_test ?_
  | with_reducible refine' we_tB ?_
  | with_reducible refine' we_bl ?_
  | with_reducible refine' d_eqI ?_
  | with_reducible refine' d_neI ?_
  | with_reducible refine' d_eqS ?_
  | with_reducible refine' d_neS ?_
  | with_reducible refine' ws_ret ?_
  | with_reducible refine' ws_for ?_
  | with_reducible refine' we_fld ?_
  | ((with_reducible refine' d_fldW ?h ?c ?n ?l ?_); (case h => walk_at "wk"); (case c => assumption); (case n => assumption); (case l => rfl))
  | ((with_reducible refine' d_fldO ?c ?n ?l ?_); (case c => assumption); (case n => assumption); (case l => rfl))
  | with_reducible refine' ws_fld ?_
  | ((with_reducible refine' d_sfld ?h ?c ?n ?l ?he ?_); (case h => walk_at "wk"); (case c => assumption); (case n => assumption); (case he => walk_at "mputf"); (case l => (simp only [List.length_cons, List.length_nil]; omega)))
  | with_reducible refine' we_dget ?_
  | with_reducible refine' we_din ?_
  | with_reducible refine' we_dnotin ?_
  | ((with_reducible refine' d_dinI ?h ?_); (case h => walk_at "dd"))
  | ((with_reducible refine' d_dinS ?h ?_); (case h => walk_at "dd"))
  | with_reducible refine' ws_dput ?_
  | with_reducible refine' we_dnew ?_
  | with_reducible refine' we_bm ?_
  | with_reducible refine' we_bm0 ?_
  | ((with_reducible refine' d_seq ?h ?_); (case h => walk_at "sd"))
  | with_reducible refine' wi_list ?_
  | ((with_reducible refine' d_sq ?h ?_); (case h => walk_at "sd"))
  | with_reducible refine' wi_tup ?_
  | with_reducible refine' d_tp ?_
  | with_reducible refine' wi_str ?_
  | with_reducible refine' d_st ?_
  | with_reducible refine' wi_rng1 ?_
  | ((with_reducible refine' d_r1 ?h ?_); (case h => omega))
  | with_reducible refine' wi_rng2 ?_
  | ((with_reducible refine' d_r2 ?h ?_); (case h => omega))
  | with_reducible refine' wi_rng3 ?_
  | with_reducible refine' wi_enum ?_
  | with_reducible refine' wi_rev ?_
  | ((with_reducible refine' d_one ?h ?_); (case h => walk_at "sd"))
  | with_reducible refine' wi_zip ?_
  | ((with_reducible refine' d_two ?h ?h2 ?_); (case h => walk_at "sd"); (case h2 => walk_at "sd"))
  | with_reducible refine' wg_tupL ?_
  | with_reducible refine' wgs_cons ?_
  | with_reducible refine' wgs_nil ?_
  | with_reducible refine' we_m1 ?_
  | with_reducible refine' d_isS ?_
  | with_reducible refine' ws_next ?_
  | with_reducible refine' we_cb ?_
  | with_reducible refine' we_and ?_
  | with_reducible refine' we_or ?_
  | with_reducible refine' we_not ?_
  | with_reducible refine' we_andV ?_
  | with_reducible refine' we_orV ?_
  | with_reducible refine' we_notV ?_
  | with_reducible refine' we_if ?_
  | with_reducible refine' ws_drop ?_
  | with_reducible refine' we_un ?_
  | with_reducible refine' d_u ?_
  | with_reducible refine' d_isNN ?_
  | with_reducible refine' d_isNI ?_
  | with_reducible refine' d_isNS ?_
  | with_reducible refine' d_isNR ?_
  | with_reducible refine' d_notNN ?_
  | with_reducible refine' d_notNI ?_
  | with_reducible refine' d_notNS ?_
  | with_reducible refine' d_notNR ?_
  | with_reducible refine' d_int1 ?_
  | with_reducible refine' d_int1b ?_
  | with_reducible refine' we_tup ?_
  | with_reducible refine' we_lstF ?_
  | with_reducible refine' we_sl ?_
  | with_reducible refine' wo_no ?_
  | with_reducible refine' wo_part ?_
  | with_reducible refine' wo_i ?_
  | with_reducible refine' ws_retN ?_
  | with_reducible refine' ws_brk ?_
  | with_reducible refine' ws_cont ?_
  | with_reducible refine' we_chain ?_
  | with_reducible refine' d_lt ?_
  | with_reducible refine' d_le ?_
  | with_reducible refine' d_gt ?_
  | with_reducible refine' d_ge ?_
  | with_reducible refine' d_ltS ?_
  | with_reducible refine' d_leS ?_
  | with_reducible refine' d_gtS ?_
  | with_reducible refine' d_geS ?_
  | ((with_reducible refine' d_addS ?h ?_); (case h => walk_at "msm"))
  | with_reducible refine' d_inS ?_
  | with_reducible refine' d_ninS ?_
  | with_reducible refine' ws_par ?_
  | with_reducible refine' d_v2 ?_
  | with_reducible refine' d_max2 ?_
  | with_reducible refine' d_min2 ?_
  | with_reducible refine' we_meth ?_
  | ((with_reducible refine' d_meth ?h ?l ?_); (case h => walk_at "wk"); (case l => rfl))
  | ((with_reducible refine' d_isiI ?h ?_); (case h => walk_at "kit"))
  | ((with_reducible refine' d_isiB ?h ?_); (case h => walk_at "kit"))
  | ((with_reducible refine' d_isiN ?h ?_); (case h => walk_at "kit"))
  | ((with_reducible refine' d_isiS ?h ?_); (case h => walk_at "kit"))
  | ((with_reducible refine' d_isiT ?h ?_); (case h => walk_at "kit"))
  | ((with_reducible refine' d_isiL ?h ?hk ?_); (case h => walk_at "sd"); (case hk => walk_at "kit"))
  | ((with_reducible refine' d_i ?h ?_); (case h => walk_at "sc"))
  | with_reducible refine' w_ttL ?_
  | with_reducible refine' w_ffL ?_
  | ((with_reducible refine' w_tt ?h ?_); (case h => first | exact dB_t (by decide) | exact nB_t (by decide) | decide))
  | ((with_reducible refine' w_ff ?h ?_); (case h => first | exact dB_f (by decide) | exact nB_f (by decide) | decide))
  | with_reducible refine' d_lenT ?_
  | ((with_reducible refine' d_lenL ?h ?_); (case h => walk_at "sd"))
  | ((with_reducible refine' d_lenD ?h ?_); (case h => walk_at "wk"))
  | ((with_reducible refine' d_slLF ?h ?_); (case h => walk_at "sd"))
  | ((with_reducible refine' ws_aug ?h ?_); (case h => rfl))
  | with_reducible refine' d_ip ?_
  | ((with_reducible refine' d_ixL ?h1 ?h2 ?_); (case h1 => walk_at "sd"); (case h2 => rfl))
  | ((with_reducible refine' d_ixT ?h2 ?_); (case h2 => rfl))
  | ((with_reducible refine' d_ixAL ?h1 ?h2 ?_); (case h1 => walk_at "sd"); (case h2 => rfl))
  | ((with_reducible refine' d_ixAT ?h2 ?_); (case h2 => rfl))
  | ((with_reducible refine' d_lenStr ?h ?_); (case h => walk_at "msm"))
  | ((with_reducible refine' d_slS ?h ?_); (case h => walk_at "msm"))
  | ((with_reducible refine' d_sz ?h ?_); (case h => walk_at "msm"))
  | ((with_reducible refine' d_catF ?h1 ?h2 ?h3 ?_); (case h1 => walk_at "cd"); (case h2 => walk_at "cd"); (case h3 => walk_at "msm"))
  | ((with_reducible refine' d_catQF ?h1 ?h2 ?h3 ?_); (case h1 => walk_at "sd"); (case h2 => walk_at "sd"); (case h3 => walk_at "msm"))
  | ((with_reducible refine' d_app ?h ?hl ?_); (case h => walk_at "wk"); (case hl => walk_at "msm"))
  | ((with_reducible refine' d_ext ?h ?h2 ?hl ?_); (case h => walk_at "wk"); (case h2 => walk_at "cd"); (case hl => walk_at "msm"))
  | ((with_reducible refine' d_clr ?h ?_); (case h => walk_at "wk"))
  | ((with_reducible refine' d_rev ?h ?_); (case h => walk_at "wk"))
  | ((with_reducible refine' d_listF ?h ?_); (case h => walk_at "sd"))
  | with_reducible refine' d_listTF ?_
  | ((with_reducible refine' we_lcLF ?ow ?_); (case ow => walk_at "own"))
  | with_reducible refine' wt_yes ?_
  | with_reducible rw [ws_ws])
local macro_rules | `(tactic| walk_at "mgo") => `(tactic| (repeat (first | walk_at "mst" | walk_at "callm" | with_reducible refine' we_call ?_)))
local macro_rules | `(tactic| walk_at "mgoN") => `(tactic| (repeat (first | walk_at "mst" | walk_at "callm" | with_reducible refine' we_call ?_ | ((with_reducible show ∀ p, _ = none → _); intro p hp; refine fz_id ?_))))
local macro_rules | `(tactic| walk_at "keep") => `(tactic| (intro p hp; refine fz_id ?_; walk_at "mgo"))
local macro_rules | `(tactic| walk_at "dat") => `(tactic| (intro p hp; refine fz_new hp ?_; clear hp; try clear p; walk_at "mgo"))
local macro_rules | `(tactic| walk_at "mkp") => `(tactic| first | with_reducible refine' mk_Let ?_ | with_reducible refine' mk_Reckon ?_ | with_reducible refine' mk_Take ?_ | with_reducible refine' mk_Put ?_ | with_reducible refine' mk_If ?_ | with_reducible refine' mk_Either ?_ | with_reducible refine' mk_Try ?_ | with_reducible refine' mk_Throw ?_ | with_reducible refine' mk_Wait ?_ | with_reducible refine' ex_si ?_ | with_reducible refine' ex_ss ?_ | with_reducible refine' ex_ssss ?_)
def leads : List Str := ["unless", "either", "guard", "jump"]
structure Fwd (r : List V) (k e : Nat) : Prop where
  hd : ∃ h t, r = .str h :: t
  fw : ∀ h t, r = .str h :: t → h ∈ leads → ∃ t0 g, r = t0 ++ [.int (Int.ofNat g)] ∧ k < g ∧ g ≤ e
def AllFwd (rs : Rows) (f e : Nat) : Prop := ∀ i r, rs[i]? = some r → Fwd r (f + i) e
theorem AllFwd.app {a b : Rows} {f e : Nat} (h : AllFwd a f e) (k : AllFwd b (f + a.length) e) : AllFwd (a ++ b) f e := fun i r hr => by
  by_cases q : i < a.length
  · rw [List.getElem?_append_left q] at hr
    exact h i r hr
  · rw [List.getElem?_append_right (by omega)] at hr
    have := k _ r hr
    rwa [show f + a.length + (i - a.length) = f + i from by omega] at this
theorem AllFwd.up {a : Rows} {f e e' : Nat} (h : AllFwd a f e) (le : e ≤ e') : AllFwd a f e' := fun i r hr => ⟨(h i r hr).hd, fun x t q m => by
  obtain ⟨t0, g, h1, h2, h3⟩ := (h i r hr).fw x t q m
  exact ⟨t0, g, h1, h2, by omega⟩⟩
theorem AllFwd.one {r : List V} {f e : Nat} (h : Fwd r f e) : AllFwd [r] f e := fun i q hq => by
  cases i with
  | zero => cases hq; exact h
  | succ i => simp at hq
theorem Fwd.plain {h : Str} {t : List V} {k e : Nat} (n : h ∉ leads) : Fwd (.str h :: t) k e := ⟨⟨h, t, rfl⟩, fun x u q m => by cases q; exact (n m).elim⟩
theorem Fwd.lead {h : Str} {t : List V} {k e g : Nat} (h1 : k < g) (h2 : g ≤ e) : Fwd ((.str h :: t) ++ [.int (Int.ofNat g)]) k e := ⟨⟨h, t ++ [.int (Int.ofNat g)], rfl⟩, fun _ _ _ _ => ⟨_, g, rfl, h1, h2⟩⟩
theorem fwd_two {h : Str} {t : List V} {one : Rows} {f : Nat} {o : Nat → Rows} (h1 : AllFwd one (f + 1) (f + 1 + one.length)) (h2 : AllFwd (o (f + one.length + 2)) (f + one.length + 2) (f + one.length + 2 + (o (f + one.length + 2)).length)) :
    AllFwd (twoM (.str h :: t) one f o) f (f + one.length + 2 + (o (f + one.length + 2)).length) := by
  unfold twoM
  refine AllFwd.app (AllFwd.app (AllFwd.app (AllFwd.one (Fwd.lead (g := f + one.length + 2) (by omega) (by omega))) ?_) ?_) ?_
  · exact h1.up (by omega)
  · rw [List.length_append, List.length_singleton, show f + (1 + one.length) = f + one.length + 1 from by omega]
    exact AllFwd.one (Fwd.lead (h := "jump") (t := []) (g := f + one.length + 2 + (o (f + one.length + 2)).length) (by omega) (by omega))
  · rw [List.length_append, List.length_append, List.length_singleton, List.length_singleton, show f + (1 + one.length + 1) = f + one.length + 2 from by omega]
    exact h2
theorem five_lead {w : Str} (h : w ∈ five) : w ∉ leads := by
  simp only [five, List.mem_cons, List.not_mem_nil, or_false] at h
  rcases h with rfl | rfl | rfl | rfl | rfl <;> decide +kernel
mutual
theorem fwd_part : ∀ (p : Pt) (f : Nat), okP p → AllFwd (partRows p f) f (f + lenP p)
  | .iff s ps os, f, ok => by
    have := fwd_two (h := "unless") (t := [.str s]) (one := rowsFrom ps (f + 1)) (f := f) (o := rowsFrom os) ((fwd_from ps (f + 1) ok.2.1).up (by rw [rowsFrom_len]; omega)) ((fwd_from os _ ok.2.2).up (Nat.le_of_eq (by simp only [rowsFrom_len])))
    rw [rowsFrom_len, rowsFrom_len] at this
    rw [partRows]
    exact this.up (by simp only [lenP]; omega)
  | .eith ps os, f, ok => by
    have := fwd_two (h := "either") (t := []) (one := rowsFrom ps (f + 1) ++ [[.str "settle"]]) (f := f) (o := rowsFrom os) ((AllFwd.app ((fwd_from ps (f + 1) ok.1).up (Nat.le_refl _)) ((AllFwd.one (Fwd.plain (by decide +kernel))))).up (by rw [List.length_append, rowsFrom_len]; omega)) ((fwd_from os _ ok.2).up (Nat.le_of_eq (by simp only [rowsFrom_len])))
    rw [List.length_append, rowsFrom_len, rowsFrom_len, List.length_singleton] at this
    rw [partRows]
    exact this.up (by simp only [lenP]; omega)
  | .tryy ps n s os, f, ok => by
    have := fwd_two (h := "guard") (t := [.str n, .str s]) (one := rowsFrom ps (f + 1) ++ [[.str "settle"]]) (f := f) (o := rowsFrom os) ((AllFwd.app ((fwd_from ps (f + 1) ok.1).up (Nat.le_refl _)) ((AllFwd.one (Fwd.plain (by decide +kernel))))).up (by rw [List.length_append, rowsFrom_len]; omega)) ((fwd_from os _ ok.2.2.2).up (Nat.le_of_eq (by simp only [rowsFrom_len])))
    rw [List.length_append, rowsFrom_len, rowsFrom_len, List.length_singleton] at this
    rw [partRows]
    exact this.up (by simp only [lenP]; omega)
  | .let_ .., _, _ => by rw [partRows]; exact AllFwd.one (Fwd.plain (by decide +kernel))
  | .rk .., _, ok => by rw [partRows]; exact AllFwd.one (Fwd.plain (five_lead ok.1))
  | .take .., _, _ => by rw [partRows]; exact AllFwd.one (Fwd.plain (by decide +kernel))
  | .put .., _, _ => by rw [partRows]; exact AllFwd.one (Fwd.plain (by decide +kernel))
  | .throw .., _, _ => by rw [partRows]; exact AllFwd.one (Fwd.plain (by decide +kernel))
  | .wait, _, _ => by rw [partRows]; exact AllFwd.one (Fwd.plain (by decide +kernel))
theorem fwd_from : ∀ (ps : List Pt) (f : Nat), okPs ps → AllFwd (rowsFrom ps f) f (f + lenPs ps)
  | [], f, _ => fun i r hr => by rw [rowsFrom] at hr; simp at hr
  | p :: q, f, ok => by
    rw [rowsFrom]
    refine AllFwd.app ((fwd_part p f ok.1).up (by simp only [lenPs]; omega)) ?_
    rw [partRows_len]
    exact (fwd_from q _ ok.2).up (by simp only [lenPs]; omega)
end
def sideH : Pt → Option (Str × List V × List Pt × List Pt)
  | .iff s ps os => some ("unless", [.str s], ps, os)
  | .eith ps os => some ("either", [], ps, os)
  | .tryy ps n s os => some ("guard", [.str n, .str s], ps, os)
  | _ => none
def stl (h : Str) : Rows := if h = "unless" then [] else [[.str "settle"]]
theorem side_rows {p : Pt} {h : Str} {t : List V} {ps os : List Pt} (e : sideH p = some (h, t, ps, os)) (f : Nat) : partRows p f = twoM (.str h :: t) (rowsFrom ps (f + 1) ++ stl h) f (rowsFrom os) := by
  cases p <;> simp only [sideH, reduceCtorEq] at e <;> cases e
  · rw [partRows, show stl "unless" = [] from by decide +kernel, List.append_nil]
  · rw [partRows, show stl "either" = [[.str "settle"]] from by decide +kernel]
  · rw [partRows, show stl "guard" = [[.str "settle"]] from by decide +kernel]
theorem side_some {p : Pt} (h : isPlain p = false) : ∃ h t ps os, sideH p = some (h, t, ps, os) ∧ h ∈ (["unless", "either", "guard"] : List Str) := by
  cases p <;> simp only [isPlain, reduceCtorEq] at h <;> exact ⟨_, _, _, _, rfl, by simp⟩
theorem side_facts {p : Pt} {h : Str} {t : List V} {ps os : List Pt} (e : sideH p = some (h, t, ps, os)) (ok : okP p) : okPs ps ∧ okPs os ∧ ndP p = 3 + max (ndPs ps) (ndPs os) ∧ lenP p = 2 + (stl h).length + lenPs ps + lenPs os := by
  cases p <;> simp only [sideH, reduceCtorEq] at e <;> cases e
  · exact ⟨ok.2.1, ok.2.2, by simp only [ndP], by rw [show stl "unless" = [] from by decide +kernel]; simp only [lenP, List.length_nil]⟩
  · exact ⟨ok.1, ok.2, by simp only [ndP], by rw [show stl "either" = [[.str "settle"]] from by decide +kernel]; simp only [lenP, List.length_singleton]⟩
  · exact ⟨ok.1, ok.2.2.2, by simp only [ndP], by rw [show stl "guard" = [[.str "settle"]] from by decide +kernel]; simp only [lenP, List.length_singleton]⟩
def Seg (rs : Rows) (a : Nat) (sg : Rows) : Prop := ∀ i r, sg[i]? = some r → rs[a + i]? = some r
theorem Seg.left {rs a b : Rows} {f : Nat} (h : Seg rs f (a ++ b)) : Seg rs f a := fun i r hr => h i r (by rw [List.getElem?_append_left (List.getElem?_eq_some_iff.mp hr).1]; exact hr)
theorem Seg.right {rs a b : Rows} {f : Nat} (h : Seg rs f (a ++ b)) : Seg rs (f + a.length) b := fun i r hr => by
  have := h (a.length + i) r (by rw [List.getElem?_append_right (by omega), Nat.add_sub_cancel_left]; exact hr)
  rwa [← Nat.add_assoc] at this
theorem Seg.at0 {rs b : Rows} {r : List V} {f : Nat} (h : Seg rs f (r :: b)) : rs[f]? = some r := h 0 r rfl
theorem seg_part {rs : Rows} {ps : List Pt} {a i : Nat} {p : Pt} (h : Seg rs a (rowsFrom ps a)) (hp : ps[i]? = some p) : Seg rs (a + lenPs (ps.take i)) (partRows p (a + lenPs (ps.take i))) := by
  have hi := (List.getElem?_eq_some_iff.mp hp).1
  have e : ps = ps.take i ++ (p :: ps.drop (i + 1)) := by
    have := List.getElem?_eq_some_iff.mp hp
    rw [← this.2, ← List.drop_eq_getElem_cons hi, List.take_append_drop]
  have h2 : Seg rs a (rowsFrom (ps.take i) a ++ (partRows p (a + lenPs (ps.take i)) ++ rowsFrom (ps.drop (i + 1)) (a + lenPs (ps.take i) + (partRows p (a + lenPs (ps.take i))).length))) := by
    have := h
    rw [e, rowsFrom_app, rowsFrom] at this
    exact this
  have h3 := h2.right.left
  rwa [rowsFrom_len] at h3
def Lay (n : Nat) (x : D) : Prop := ∃ p, pyD x = some p ∧ p.canLay0 = true ∧ p.depth ≤ n
def LayL (n : Nat) (xs : List D) : Prop := ∃ ps, pyDs xs = some ps ∧ PyData.canLayAll0 ps = true ∧ PyData.depthAll ps ≤ n
theorem LayL.nil {n : Nat} : LayL n [] := ⟨[], rfl, rfl, Nat.zero_le _⟩
theorem LayL.cons {n : Nat} {x : D} {xs : List D} (h : Lay n x) (t : LayL n xs) : LayL n (x :: xs) := by
  obtain ⟨p, h1, h2, h3⟩ := h
  obtain ⟨ps, t1, t2, t3⟩ := t
  refine ⟨p :: ps, by rw [pyDs, h1, t1]; rfl, ?_, ?_⟩
  · show (p.canLay0 && PyData.canLayAll0 ps) = true
    rw [h2, t2]; rfl
  · show max p.depth (PyData.depthAll ps) ≤ n
    omega
theorem Lay.tup {n m : Nat} {xs : List D} (h : LayL n xs) (le : n + 1 ≤ m) : Lay m (.tup xs) := by
  obtain ⟨ps, t1, t2, t3⟩ := h
  refine ⟨.tuple ps, by rw [pyD, t1]; rfl, t2, ?_⟩
  show PyData.depthAll ps + 1 ≤ m
  omega
theorem Lay.lst {n m : Nat} {xs : List D} (h : LayL n xs) (le : n + 1 ≤ m) : Lay m (.lst xs) := by
  obtain ⟨ps, t1, t2, t3⟩ := h
  refine ⟨.list ps, by rw [pyD, t1]; rfl, t2, ?_⟩
  show PyData.depthAll ps + 1 ≤ m
  omega
theorem Lay.int {n : Nat} {i : Int} : Lay n (.raw (.int i)) := ⟨_, rfl, rfl, Nat.zero_le _⟩
theorem Lay.str {n : Nat} {s : Str} (h : PyData.strOk s = true) : Lay n (.raw (.str s)) := ⟨_, rfl, h, Nat.zero_le _⟩
theorem sok_sl {s : Str} (h : Sl s) : PyData.strOk s = true := by
  obtain ⟨k, hk, rfl⟩ := h
  show (#[97 + k] : Array Nat).all _ = true
  simp; omega
theorem sok_name {s : Str} (h : NameOk s) : PyData.strOk s = true := by
  unfold PyData.strOk
  rw [Array.all_eq_true]
  intro i hi
  have := h.az s.cps[i] (by simp)
  simp; omega
theorem sok_five {s : Str} (h : s ∈ five) : PyData.strOk s = true := by
  simp only [five, List.mem_cons, List.not_mem_nil, or_false] at h
  rcases h with rfl | rfl | rfl | rfl | rfl <;> decide +kernel
theorem Lay.lit {n : Nat} {s : Str} (h : PyData.strOk s = true := by decide +kernel) : Lay n (.raw (.str s)) := Lay.str h
mutual
theorem lay_tr : ∀ p : Pt, okP p → Lay (ndP p) (trD p)
  | .let_ s n, ok => by rw [trD]; exact Lay.tup (n := 0) (.cons Lay.lit (.cons (.str (sok_sl ok.1)) (.cons .int .nil))) (by simp [ndP])
  | .rk w s o t, ok => by rw [trD]; exact Lay.tup (n := 0) (.cons Lay.lit (.cons (.str (sok_five ok.1)) (.cons (.str (sok_sl ok.2.1)) (.cons (.str (sok_sl ok.2.2.1)) (.cons (.str (sok_sl ok.2.2.2)) .nil))))) (by simp [ndP])
  | .take s p, ok => by rw [trD]; exact Lay.tup (n := 0) (.cons Lay.lit (.cons (.str (sok_sl ok.1)) (.cons (.str (sok_sl ok.2)) .nil))) (by simp [ndP])
  | .put p s, ok => by rw [trD]; exact Lay.tup (n := 0) (.cons Lay.lit (.cons (.str (sok_sl ok.1)) (.cons (.str (sok_sl ok.2)) .nil))) (by simp [ndP])
  | .iff s ps os, ok => by
    rw [trD]
    exact Lay.tup (n := 2 + max (ndPs ps) (ndPs os)) (.cons Lay.lit (.cons (.str (sok_sl ok.1)) (.cons (Lay.lst (lay_trs ps ok.2.1) (by omega)) (.cons (Lay.lst (lay_trs os ok.2.2) (by omega)) .nil)))) (by simp only [ndP]; omega)
  | .eith ps os, ok => by
    rw [trD]
    exact Lay.tup (n := 2 + max (ndPs ps) (ndPs os)) (.cons Lay.lit (.cons (Lay.lst (lay_trs ps ok.1) (by omega)) (.cons (Lay.lst (lay_trs os ok.2) (by omega)) .nil))) (by simp only [ndP]; omega)
  | .tryy ps n s os, ok => by
    rw [trD]
    exact Lay.tup (n := 2 + max (ndPs ps) (ndPs os)) (.cons Lay.lit (.cons (Lay.lst (lay_trs ps ok.1) (by omega)) (.cons (.str (sok_name ok.2.1)) (.cons (.str (sok_sl ok.2.2.1)) (.cons (Lay.lst (lay_trs os ok.2.2.2) (by omega)) .nil))))) (by simp only [ndP]; omega)
  | .throw n s, ok => by rw [trD]; exact Lay.tup (n := 0) (.cons Lay.lit (.cons (.str (sok_name ok.1)) (.cons (.str (sok_sl ok.2)) .nil))) (by simp [ndP])
  | .wait, _ => by rw [trD]; exact Lay.tup (n := 0) (.cons Lay.lit .nil) (by simp [ndP])
theorem lay_trs : ∀ ps : List Pt, okPs ps → LayL (ndPs ps) (trsD ps)
  | [], _ => by rw [trsD]; exact .nil
  | p :: r, ok => by
    rw [trsD]
    have h1 := lay_tr p ok.1
    have h2 := lay_trs r ok.2
    obtain ⟨a, b, c, e⟩ := h1
    obtain ⟨a2, b2, c2, e2⟩ := h2
    exact LayL.cons ⟨a, b, c, by rw [ndPs]; omega⟩ ⟨a2, b2, c2, by rw [ndPs]; omega⟩
end
theorem Lay.shaped {x : D} {n : Nat} (h : Lay n x) (hn : n ≤ 64) : ∃ p, pyD x = some p ∧ SeqAt.shaped p = true := by
  obtain ⟨p, h1, h2, h3⟩ := h
  refine ⟨p, h1, ?_⟩
  unfold SeqAt.shaped
  rw [h2, decide_eq_true (by omega)]; rfl
def p_l_ahead (d : Ad) : PF := fun ds W Q => ∃ (rs : Rows), ds = [.lst (rowsL rs)] ∧ ∃ ps, okPs ps ∧ rs = rowsFrom ps 0 ++ [[.str "lay"]] ∧ lenPs ps ≤ 10000 ∧ Q (.bl true) W
def p_l_one_back (d : Ad) : PF := fun ds W Q => ∃ (p : Pt), ds = [rwD (plainRow p)] ∧ isPlain p = true ∧ okP p ∧ Q (trD p) W
def p_l_joined (d : Ad) : PF := fun ds W Q => ∃ (h : Str) (t : List V) (g : Int) (ps os : List Pt), ds = [rwD ((.str h :: t) ++ [.int g]), .lst (trsD ps), .lst (trsD os)] ∧ ∃ p, sideH p = some (h, t, ps, os) ∧ Q (trD p) W
def pN_l_back (n : Nat) (d : Ad) : PF := fun ds W Q => ∃ (rs : Rows) (a e : Nat), ds = [.lst (rowsL rs), .int (a : Nat), .int (e : Nat)] ∧ ∃ ps, Seg rs a (rowsFrom ps a) ∧ e = a + lenPs ps ∧ okPs ps ∧ ndPs ps < n ∧ lenPs ps ≤ 10000 ∧ Q (.lst (trsD ps)) W
abbrev sp_l_ahead (d : Ad) : Sp := lift d.K (p_l_ahead d)
abbrev sp_l_one_back (d : Ad) : Sp := lift d.K (p_l_one_back d)
abbrev sp_l_joined (d : Ad) : Sp := lift d.K (p_l_joined d)
abbrev spN_l_back (n : Nat) (d : Ad) : Sp := lift d.K (pN_l_back n d)
abbrev sp_l_back (d : Ad) : Sp := spN_l_back 20 d
def sp_law (d : Ad) : Sp := spLaw d.K
theorem no_l_back {d : Ad} {vs : List V} {H : Hp} {Q : VK} {E : XK} (h : spN_l_back 0 d vs H Q E) : False := by
  obtain ⟨_, _, _, _, _, _, ⟨_, _, _, _, _, _, _, _, h, _⟩, _⟩ := h
  omega
abbrev N_l_ahead : List Str := ["_law_rows", "_law_k", "_law_row", "_law_target"]
def t_l_ahead (d : Ad) : TS :=
  (tSeq (tFor (iRng1 (tCons (tCB (Evl.rLenS d.K) (tCons (tVar 0) tNil)) tNil)) (gName 1) (tSeq (tAsg (tOp (rIxL d.K) (tVar 0) (tVar 1)) (gName 2))
  (tSeq (tIfS (tOr (tNot (tB (tCB (rIsi d.K) (tCons (tVar 2) (tCons (tC (.ty "tuple")) tNil))))) (tTest (tOp rEq (tCB (Evl.rLenS d.K) (tCons (tVar 2) tNil)) (tC (.int 0))))) (tRet (tC (.bl false))) tNext)
  (tIfS (tTest (tOp (rIn d.K false) (tOp (rIxT d.K) (tVar 2) (tC (.int 0))) (tTup (tCons (tC (.str "unless")) (tCons (tC (.str "either")) (tCons (tC (.str "guard")) (tCons (tC (.str "jump")) tNil))))))) (tSeq (tAsg (tOp (rIxT d.K) (tVar 2) (aNeg (tC (.int 1)))) (gName 3))
  (tIfS (tOr (tNot (tB (tCB (rIsi d.K) (tCons (tVar 3) (tCons (tC (.ty "int")) tNil))))) (tOr (tB (tCB (rIsi d.K) (tCons (tVar 3) (tCons (tC (.ty "bool")) tNil)))) (tNot (tTest (tChain rLt rLt (tVar 1) (tVar 3) (tCB (Evl.rLenS d.K) (tCons (tVar 0) tNil))))))) (tRet (tC (.bl false))) tNext)) tNext))))
  (tRet (tOp (rEqD d.K) (tOp (rIxL d.K) (tVar 0) (aNeg (tC (.int 1)))) (tTup (tCons (tC (.str "lay")) tNil)))))
abbrev N_l_one_back : List Str := ["_law_row"]
def t_l_one_back (d : Ad) : TS :=
  (tSeq (tIfS (tAnd (tTest (tOp (rIn d.K false) (tOp (rIxT d.K) (tVar 0) (tC (.int 0))) (tTup (tCons (tC (.str "plus")) (tCons (tC (.str "minus")) (tCons (tC (.str "times")) (tCons (tC (.str "less")) (tCons (tC (.str "same")) tNil)))))))) (tTest (tOp rEq (tCB (Evl.rLenS d.K) (tCons (tVar 0) tNil)) (tC (.int 4))))) (tRet (aCatT d.K (tTup (tCons (tC (.str "reckon")) tNil)) (tVar 0))) tNext)
  (tRet (tVar 0)))
abbrev N_l_joined : List Str := ["_law_row", "_law_one", "_law_other"]
def t_l_joined (d : Ad) : TS :=
  (tSeq (tIfS (tTest (tOp rEq (tOp (rIxT d.K) (tVar 0) (tC (.int 0))) (tC (.str "unless")))) (tRet (tTup (tCons (tC (.str "if")) (tCons (tOp (rIxT d.K) (tVar 0) (tC (.int 1))) (tCons (tVar 1) (tCons (tVar 2) tNil)))))) tNext)
  (tSeq (tIfS (tTest (tOp rEq (tOp (rIxT d.K) (tVar 0) (tC (.int 0))) (tC (.str "either")))) (tRet (tTup (tCons (tC (.str "either")) (tCons (tVar 1) (tCons (tVar 2) tNil))))) tNext)
  (tRet (tTup (tCons (tC (.str "try")) (tCons (tVar 1) (tCons (tOp (rIxT d.K) (tVar 0) (tC (.int 1))) (tCons (tOp (rIxT d.K) (tVar 0) (tC (.int 2))) (tCons (tVar 2) tNil)))))))))
abbrev N_l_back : List Str := ["_law_rows", "_law_at", "_law_end", "_law_tree_here", "_law_row", "_law_second", "_law_close", "_law_last", "_law_one", "_law_other"]
def t_l_back (n : Nat) (d : Ad) : TS :=
  (tSeq (tAsg (tLst tNil) (gName 3))
  (tSeq (tWhile (tTest (tOp rLt (tVar 1) (tVar 2))) (tSeq (tAsg (tOp (rIxL d.K) (tVar 0) (tVar 1)) (gName 4))
  (tIfS (tTest (tOp (rIn d.K true) (tOp (rIxT d.K) (tVar 4) (tC (.int 0))) (tTup (tCons (tC (.str "unless")) (tCons (tC (.str "either")) (tCons (tC (.str "guard")) tNil)))))) (tSeq (tDrop (tBM d.K "list" rAppend (tVar 3) (tCons (tCall (sp_l_one_back d) [] E0 (tCons (tVar 4) tNil)) tNil)))
  (tAsg (aAdd (tVar 1) (tC (.int 1))) (gName 1))) (tSeq (tAsg (tOp (rIxT d.K) (tVar 4) (aNeg (tC (.int 1)))) (gName 5))
  (tSeq (tAsg (aSub (aSub (tVar 5) (tC (.int 1))) (tCB rInt1 (tCons (tOp rNe (tOp (rIxT d.K) (tVar 4) (tC (.int 0))) (tC (.str "unless"))) tNil))) (gName 6))
  (tSeq (tIfS (tOr (tTest (tOp rGt (tVar 5) (tVar 2))) (tOr (tTest (tOp rLe (tVar 6) (tVar 1))) (tTest (tOp rNe (tOp (rIxT d.K) (tOp (rIxL d.K) (tVar 0) (aSub (tVar 5) (tC (.int 1)))) (tC (.int 0))) (tC (.str "jump")))))) (tRet (tC .non)) tNext)
  (tSeq (tAsg (tOp (rIxT d.K) (tOp (rIxL d.K) (tVar 0) (aSub (tVar 5) (tC (.int 1)))) (tC (.int 1))) (gName 7))
  (tSeq (tIfS (tOr (tNot (tTest (tChain rLe rLe (tVar 5) (tVar 7) (tVar 2)))) (tAnd (tTest (tOp rNe (tOp (rIxT d.K) (tVar 4) (tC (.int 0))) (tC (.str "unless")))) (tTest (tOp (rNeD d.K) (tOp (rIxL d.K) (tVar 0) (tVar 6)) (tTup (tCons (tC (.str "settle")) tNil)))))) (tRet (tC .non)) tNext)
  (tSeq (tAsg (tCall (spN_l_back n d) [] E0 (tCons (tVar 0) (tCons (aAdd (tVar 1) (tC (.int 1))) (tCons (tVar 6) tNil)))) (gName 8))
  (tSeq (tAsg (tCall (spN_l_back n d) [] E0 (tCons (tVar 0) (tCons (tVar 5) (tCons (tVar 7) tNil)))) (gName 9))
  (tSeq (tDrop (tBM d.K "list" rAppend (tVar 3) (tCons (tCall (sp_l_joined d) [] E0 (tCons (tVar 4) (tCons (tVar 8) (tCons (tVar 9) tNil)))) tNil)))
  (tAsg (tVar 7) (gName 1)))))))))))))
  (tRet (tVar 3))))
abbrev N_law : List Str := ["_law_script", "_law_names_here", "_law_at", "_law_tree_here", "_law_rows"]
def t_law (d : Ad) : TS :=
  (tSeq (tAsg (tCall (sp_l_names d) [] E0 (tCons (tCB (rSum d.K) (tCons (tSl (rSlL d.K) (tVar 0) tNoPart (tPart (tC (.int 1)))) tNil)) tNil)) (gName 1))
  (tSeq (tFor (iRng3 (tCons (tC (.int 0)) (tCons (tCB Evl.rMax2 (tCons (tC (.int 1)) (tCons (tCB (Evl.rLenS d.K) (tCons (tVar 0) tNil)) tNil))) (tCons (tC (.int 12)) tNil)))) (gName 2) (tSeq (tAsg (tCall (sp_l_tree d) [] E0 (tCons (tSl (rSlL d.K) (tVar 0) (tPart (tVar 2)) (tPart (aAdd (tVar 2) (tC (.int 12))))) (tCons (tC (.int 3)) (tCons (tVar 1) tNil)))) (gName 3))
  (tSeq (tAsg (tCall (sp_rows_of d) [] E0 (tCons (tCall (sp_l_made d) [] E0 (tCons (tVar 3) tNil)) tNil)) (gName 4))
  (tSeq (tIfS (tOr (tNot (tB (tCB (rIsi d.K) (tCons (tVar 4) (tCons (tC (.ty "list")) tNil))))) (tOr (tTest (tOp rEq (tCB (Evl.rLenS d.K) (tCons (tVar 4) tNil)) (tC (.int 0)))) (tNot (tB (tCall (sp_l_ahead d) [] E0 (tCons (tVar 4) tNil)))))) (tRet (tC (.bl false))) tNext)
  (tIfS (tTest (tOp (rNeD d.K) (tCall (sp_l_back d) [] E0 (tCons (tVar 4) (tCons (tC (.int 0)) (tCons (aSub (tCB (Evl.rLenS d.K) (tCons (tVar 4) tNil)) (tC (.int 1))) tNil)))) (tVar 3))) (tRet (tC (.bl false))) tNext)))))
  (tRet (tC (.bl true)))))
local macro_rules | `(tactic| walk_at "callm") => `(tactic| first | with_reducible refine' (we_callF (p := p_rows_of _) ?_) | with_reducible refine' (we_callF (p := p_l_names _) ?_) | walk_at "mkp")
section
variable {d : Ad} {vs : List V} {H : Hp} {Q : VK} {E : XK}
theorem pure_l_one_back (h : sp_l_one_back d vs H Q E) : t_l_one_back d { nx := fun _ H' => Q .non H', rt := Q } (start N_l_one_back vs) H := by
  refine lift_pure h fun ds W Q hp => ?_
  obtain ⟨p, rfl, pl, ok, k⟩ := hp
  show WS d.K (t_l_one_back d) [some (rwD (plainRow p))] W _
  unfold t_l_one_back
  cases p with
  | iff => cases pl
  | eith => cases pl
  | tryy => cases pl
  | rk w s o t =>
    simp only [plainRow, List.map_cons, List.map_nil]
    rw [trD] at k
    walk_at "mgo"
    refine d_inTf (l := five) ?_
    walk_at "mgo"
    refine w_tt (dB_t ok.1) ?_
    walk_at "mgo"
    refine w_tt (dB_t rfl) ?_
    walk_at "mgo"
    refine d_catT (ds := [_]) (List.cons_ne_nil _ _) (by rw [sizeLine_eq]; simp) ?_
    exact ret_dat (Sub.refl _) k
  | _ =>
    simp only [plainRow, List.map_cons, List.map_nil]
    rw [trD] at k
    walk_at "mgo"
    refine d_inTf (l := five) ?_
    walk_at "mgo"
    exact ret_dat (Sub.refl _) k
theorem pure_l_joined (h : sp_l_joined d vs H Q E) : t_l_joined d { nx := fun _ H' => Q .non H', rt := Q } (start N_l_joined vs) H := by
  refine lift_pure h fun ds W Q hp => ?_
  obtain ⟨h, t, g, ps, os, rfl, p, hs, k⟩ := hp
  show WS d.K (t_l_joined d) [some (rwD ((.str h :: t) ++ [.int g])), some (.lst (trsD ps)), some (.lst (trsD os))] W _
  unfold t_l_joined
  cases p <;> simp only [sideH, reduceCtorEq] at hs <;> cases hs
  · simp only [List.cons_append, List.nil_append, List.map_cons, List.map_nil]
    rw [trD] at k
    walk_at "mgo"
    exact ret_dat (Sub.refl _) k
  · simp only [List.cons_append, List.nil_append, List.map_cons, List.map_nil]
    rw [trD] at k
    walk_at "mgo"
    exact ret_dat (Sub.refl _) k
  · simp only [List.cons_append, List.nil_append, List.map_cons, List.map_nil]
    rw [trD] at k
    walk_at "mgo"
    exact ret_dat (Sub.refl _) k
theorem rowsL_at {rs : Rows} {k : Nat} {r : List V} (h : rs[k]? = some r) : atI (rowsL rs) (k : Int) = some (rwD r) := atI_nat (by rw [List.getElem?_map, h]; rfl)
theorem pure_l_ahead (h : sp_l_ahead d vs H Q E) : t_l_ahead d { nx := fun _ H' => Q .non H', rt := Q } (start N_l_ahead vs) H := by
  refine lift_pure h fun ds W Q hp => ?_
  obtain ⟨_, rfl, ps, ok, rfl, hl, k⟩ := hp
  have fw := fwd_from ps 0 ok
  have ln := rowsFrom_len ps 0
  show WS d.K (t_l_ahead d) [some (.lst (rowsL (rowsFrom ps 0 ++ [[.str "lay"]]))), none, none, none] W _
  unfold t_l_ahead
  have lt : (rowsFrom ps 0 ++ [[V.str "lay"]]).length = lenPs ps + 1 := by rw [List.length_append, ln]; rfl
  have fw2 : AllFwd (rowsFrom ps 0 ++ [[V.str "lay"]]) 0 (lenPs ps) := AllFwd.app (fw.up (by omega)) (AllFwd.one (Fwd.plain (by decide +kernel)))
  have okr : ∀ r ∈ rowsFrom ps 0 ++ [[V.str "lay"]], okR r := okR_app (okR_from _ _) (okR_one okR_lay)
  have last : atI (rowsL (rowsFrom ps 0 ++ [[V.str "lay"]])) (-1) = some (rwD [V.str "lay"]) := by
    rw [show rowsL (rowsFrom ps 0 ++ [[V.str "lay"]]) = rowsL (rowsFrom ps 0) ++ [rwD [V.str "lay"]] from List.map_append]
    exact at_last
  generalize rowsFrom ps 0 ++ [[V.str "lay"]] = rs at lt fw2 okr last ⊢
  walk_at "mgo"
  rw [List.length_map, lt]
  refine d_r1 (by omega) ?_
  refine ⟨fun i e W' => e = [some (.lst (rowsL rs)), none, none, none] ∧ W' = W, nx_id ⟨rfl, rfl⟩, fun _ _ _ _ _ => trivial, ?_, ?_⟩
  · rintro i u e' W' hi hu ⟨rfl, rfl⟩
    cases hu
    have hi : i < lenPs ps + 1 := by simpa [itR] using hi
    rw [show (0 + (i : Nat) * 1 : Int) = (i : Nat) from by rw [Int.mul_one, Int.zero_add]]
    have hr := List.getElem?_eq_getElem (l := rs) (i := i) (by omega)
    have f1 := fw2 i _ hr
    have o1 := okr _ (List.getElem_mem (l := rs) (n := i) (by omega))
    generalize rs[i]'(by omega) = r at hr f1 o1
    obtain ⟨h, t, rfl⟩ := f1.hd
    walk_at "mgo"
    refine d_ixL (SeqD.lst _) (rowsL_at hr) ?_
    walk_at "mgo"
    refine w_ff (dB_f (by simp only [List.length_map, List.length_cons]; omega)) ?_
    walk_at "mgo"
    refine d_ixT (ds := .raw (.str h) :: t.map D.raw) at0 ?_
    walk_at "mgo"
    refine d_inTf (l := leads) ?_
    walk_at "mgo"
    walk_at "dec"
    · rename_i hm
      obtain ⟨t0, g, e1, g1, g2⟩ := f1.fw h t rfl hm
      walk_at "mgo"
      rw [show rwD (V.str h :: t) = .tup (t0.map D.raw ++ [.raw (.int (Int.ofNat g))]) from congrArg D.tup (by rw [e1, List.map_append]; rfl)]
      refine d_ixT at_last ?_
      walk_at "mgo"
      refine w_tt (dB_t (by show (i : Int) < (g : Int); omega)) ?_
      walk_at "mgo"
      rw [List.length_map, lt]
      rw [dB_t (show (Int.ofNat g) < ((lenPs ps + 1 : Nat) : Int) by show (g : Int) < _; omega)]
      walk_at "mgo"
      exact nx_le (by walk_at "le") ⟨rfl, rfl⟩
    · walk_at "mgo"
      exact nx_le (by walk_at "le") ⟨rfl, rfl⟩
  · rintro e' W' ⟨rfl, rfl⟩
    walk_at "mgo"
    refine d_ixL (SeqD.lst _) last ?_
    walk_at "mgo"
    refine d_eqD (.id _) (.id _) (p := .tuple [.str "lay"]) (q := .tuple [.str "lay"]) rfl rfl (by decide +kernel) (by decide +kernel) (eqv_self (by decide +kernel)) ?_
    exact ret_dat (Sub.refl _) k
def backInv (rs : Rows) (a e : Nat) (ps : List Pt) (R : Addr) (W : Wd) (m : Nat) (ev : Env) (W' : Wd) : Prop := ∃ i, i ≤ ps.length ∧ m = ps.length - i ∧ ev = [some (.lst (rowsL rs)), some (.raw (.int ((a + lenPs (ps.take i) : Nat) : Int))), some (.raw (.int (e : Nat))), some (.ptr R), none, none, none, none, none, none] ∧ W' = wset W R (.lst (trsD (ps.take i)))
theorem pure_l_back {n : Nat} (h : spN_l_back (n + 1) d vs H Q E) : t_l_back n d { nx := fun _ H' => Q .non H', rt := Q } (start N_l_back vs) H := by
  refine lift_pure h fun ds W Q hp => ?_
  obtain ⟨rs, a, e, rfl, ps, sg, rfl, ok, hn, hl, k⟩ := hp
  show WS d.K (t_l_back n d) [some (.lst (rowsL rs)), some (.raw (.int a)), some (.raw (.int ((a + lenPs ps : Nat) : Int))), none, none, none, none, none, none, none] W _
  unfold t_l_back
  walk_at "mgo"
  intro R hR
  refine fz_id ?_
  walk_at "mgo"
  refine ws_while (backInv rs a (a + lenPs ps) ps R W) (m := ps.length) (nx_id ⟨0, Nat.zero_le _, rfl, by simp [lenPs], by simp [trsD]⟩) ?_
  rintro m e' W' ⟨i, hi, rfl, rfl, rfl⟩
  have b1 : (trsD (ps.take i)).length ≤ 10000 := by
    have := len_lenP (ps.take i)
    have := lenPs_take ps i
    rw [trsD_len]; omega
  walk_at "mgo"
  walk_at "dec"
  · rename_i hc
    have hi : i < ps.length := by
      rcases Nat.lt_or_ge i ps.length with z | z
      · exact z
      · rw [List.take_of_length_le z] at hc; omega
    have hp := List.getElem?_eq_getElem hi
    generalize ps[i] = p at hp
    have sp := seg_part sg hp
    have okp := okPs_iff.mp ok p (List.mem_of_getElem? hp)
    have g1 := lenP_mem hp
    have g2 := ndP_mem hp
    have g3 : lenPs (ps.take (i + 1)) = lenPs (ps.take i) + lenP p := by rw [List.take_succ, hp, lenPs_app]; simp [lenPs]
    have g4 : trsD (ps.take (i + 1)) = trsD (ps.take i) ++ [trD p] := by rw [List.take_succ, hp, trsD_app]; simp [trsD]
    have fin : ∀ (ev : Env) (W' : Wd), EnvLe [some (.lst (rowsL rs)), some (.raw (.int ((a + lenPs (ps.take i) + lenP p : Nat) : Int))), some (.raw (.int ((a + lenPs ps : Nat) : Int))), some (.ptr R), none, none, none, none, none, none] ev → Sub (wset W R (.lst (trsD (ps.take i) ++ [trD p]))) W' →
        ∃ m', m' < ps.length - i ∧ Nx (backInv rs a (a + lenPs ps) ps R W m') ev W' := fun ev W' h1 h2 =>
      ⟨ps.length - (i + 1), by omega, nx_of h1 h2 ⟨i + 1, hi, rfl, by rw [g3, Nat.add_assoc], by rw [g4]⟩⟩
    have hbe : a + lenPs (ps.take i) + lenP p ≤ a + lenPs ps := by omega
    generalize a + lenPs (ps.take i) = b at sp fin hc hbe ⊢
    cases hpl : isPlain p with
    | true =>
      have e1 : partRows p b = [plainRow p] := by
        have := plains_rows (ps := [p]) (fun q hq => by rw [List.mem_singleton.mp hq]; exact hpl) b
        simpa [rowsFrom] using this
      rw [e1] at sp
      have e2 : lenP p = 1 := by
        have := plains_len (ps := [p]) (fun q hq => by rw [List.mem_singleton.mp hq]; exact hpl)
        simpa [lenPs] using this
      obtain ⟨h, t, e3, hh⟩ : ∃ h t, plainRow p = .str h :: t ∧ h ∉ (["unless", "either", "guard"] : List Str) := by
        cases p <;> simp only [isPlain, reduceCtorEq] at hpl
        · exact ⟨_, _, rfl, by decide +kernel⟩
        · refine ⟨_, _, rfl, fun z => five_lead okp.1 ?_⟩
          simp only [leads, List.mem_cons, List.not_mem_nil, or_false] at z ⊢
          rcases z with z | z | z
          · exact .inl z
          · exact .inr (.inl z)
          · exact .inr (.inr (.inl z))
        · exact ⟨_, _, rfl, by decide +kernel⟩
        · exact ⟨_, _, rfl, by decide +kernel⟩
        · exact ⟨_, _, rfl, by decide +kernel⟩
        · exact ⟨_, _, rfl, by decide +kernel⟩
      walk_at "mgo"
      refine d_ixL (SeqD.lst _) (rowsL_at sp.at0) ?_
      walk_at "mgo"
      rw [show rwD (plainRow p) = .tup (.raw (.str h) :: t.map D.raw) from congrArg D.tup (by rw [e3]; rfl)]
      refine d_ixT at0 ?_
      walk_at "mgo"
      refine d_inTt (l := ["unless", "either", "guard"]) ?_
      walk_at "mgo"
      refine w_tt (nB_t hh) ?_
      walk_at "mgo"
      refine ⟨p, by rw [show rwD (plainRow p) = .tup (.raw (.str h) :: t.map D.raw) from congrArg D.tup (by rw [e3]; rfl)], hpl, okp, ?_⟩
      walk_at "mgo"
      exact fin _ _ (by rw [e2]; walk_at "le") (by walk_at "sub")
    | false =>
      obtain ⟨h, t, qs, os, hs, hm⟩ := side_some hpl
      obtain ⟨okq, oko, en, el⟩ := side_facts hs okp
      rw [side_rows hs] at sp
      have hst : ∀ i r, (stl h)[i]? = some r → r = [.str "settle"] ∧ i = 0 := fun i r hr => by
        unfold stl at hr
        split at hr
        · simp at hr
        · cases i with
          | zero => cases hr; exact ⟨rfl, rfl⟩
          | succ i => simp at hr
      have hsl : (stl h).length = if (!dB (h = "unless")) = true then 1 else 0 := by
        unfold stl
        by_cases z : h = "unless"
        · rw [if_pos z, dB_t z]; rfl
        · rw [if_neg z, dB_f z]; rfl
      generalize hone : rowsFrom qs (b + 1) ++ stl h = one at sp
      have lo : one.length = lenPs qs + (stl h).length := by rw [← hone, List.length_append, rowsFrom_len]
      unfold twoM at sp
      have q1 := sp.left.left.left.at0
      have q2 := sp.left.left.right
      have q3 := sp.left.right.at0
      have q4 := sp.right
      simp only [List.length_append, List.length_singleton, rowsFrom_len] at q2 q3 q4
      obtain ⟨s2, es⟩ : ∃ s2, s2 = b + one.length + 2 := ⟨_, rfl⟩
      rw [← es] at q1 q3 q4
      rw [show b + (1 + one.length) = b + 1 + one.length from by omega] at q3
      rw [show b + (1 + one.length + 1) = s2 from by omega] at q4
      clear sp
      have bl : s2 + lenPs os = b + lenP p := by omega
      walk_at "mgo"
      refine d_ixL (SeqD.lst _) (rowsL_at q1) ?_
      walk_at "mgo"
      refine d_ixT (ds := ((V.str h :: t) ++ [V.int ((s2 : Nat) : Int)]).map D.raw) (at0 (x := D.raw (.str h))) ?_
      walk_at "mgo"
      refine d_inTt (l := ["unless", "either", "guard"]) ?_
      walk_at "mgo"
      refine w_ff (nB_f hm) ?_
      walk_at "mgo"
      refine d_ixT (ds := ((V.str h :: t) ++ [V.int ((s2 : Nat) : Int)]).map D.raw) (d := D.raw (.int ((s2 : Nat) : Int))) (by rw [List.map_append]; exact at_last) ?_
      walk_at "mgo"
      refine d_ixT (ds := ((V.str h :: t) ++ [V.int ((s2 : Nat) : Int)]).map D.raw) (at0 (x := D.raw (.str h))) ?_
      walk_at "mgo"
      have ec : (((s2 : Nat) : Int) - 1 - (if (!dB (h = "unless")) = true then (1 : Int) else 0)) = ((b + 1 + lenPs qs : Nat) : Int) := by
        have : (if (!dB (h = "unless")) = true then (1 : Int) else 0) = ((stl h).length : Int) := by rw [hsl]; split <;> rfl
        rw [this]; omega
      rw [ec]
      refine w_ff (dB_f (by omega)) ?_
      walk_at "mgo"
      refine w_ff (dB_f (by omega)) ?_
      walk_at "mgo"
      have e5 : ((s2 : Nat) : Int) - 1 = ((b + 1 + one.length : Nat) : Int) := by omega
      rw [e5]
      refine d_ixL (SeqD.lst _) (rowsL_at q3) ?_
      walk_at "mgo"
      rw [e5]
      refine d_ixL (SeqD.lst _) (rowsL_at q3) ?_
      walk_at "mgo"
      refine w_tt (dB_t (by omega)) ?_
      walk_at "mgo"
      refine w_ff (nB_f (by omega)) ?_
      walk_at "mgo"
      refine d_ixT (ds := ((V.str h :: t) ++ [V.int ((s2 : Nat) : Int)]).map D.raw) (at0 (x := D.raw (.str h))) ?_
      walk_at "mgo"
      have s1 : Seg rs (b + 1) (rowsFrom qs (b + 1)) := by rw [← hone] at q2; exact q2.left
      by_cases hu : h = "unless"
      case' pos =>
        refine w_ff (nB_f hu) ?_
        walk_at "mgo"
      case' neg =>
        refine w_tt (nB_t hu) ?_
        walk_at "mgo"
        have q5 : rs[b + 1 + lenPs qs]? = some [V.str "settle"] := by
          have e6 : stl h = [[.str "settle"]] := by unfold stl; rw [if_neg hu]
          rw [← hone, e6] at q2
          have := q2.right.at0
          rwa [rowsFrom_len] at this
        refine d_ixL (SeqD.lst _) (rowsL_at q5) ?_
        walk_at "mgo"
        refine d_neD (.id _) (.id _) (p := .tuple [.str "settle"]) (q := .tuple [.str "settle"]) rfl rfl (by decide +kernel) (by decide +kernel) (eqv_self (by decide +kernel)) ?_
        walk_at "mgo"
      all_goals
        rw [show ((b : Int) + 1) = ((b + 1 : Nat) : Int) from rfl]
        refine ⟨_, b + 1, _, rfl, qs, s1, rfl, okq, by omega, by omega, ?_⟩
        walk_at "mgo"
        refine ⟨_, s2, _, rfl, os, q4, rfl, oko, by omega, by omega, ?_⟩
        walk_at "mgo"
        refine ⟨h, t, _, qs, os, rfl, p, hs, ?_⟩
        walk_at "mgo"
        exact fin _ _ (by rw [← bl]; walk_at "le") (by walk_at "sub")
  · rename_i hc
    have hi : i = ps.length := by
      rcases Nat.lt_or_ge i ps.length with z | z
      · have hp := List.getElem?_eq_getElem z
        have := lenP_mem hp
        have : 1 ≤ lenP ps[i] := by cases ps[i] <;> simp [lenP] <;> omega
        omega
      · omega
    subst hi
    walk_at "mgo"
    rw [List.take_length]
    exact ret_frz hR (Sub.refl _) k
theorem rgc12 {m : Nat} (h : m ≤ 63) : RgC 0 (m : Nat) 12 ((m + 11) / 12) := by
  refine ⟨by decide, by decide, ?_, ?_⟩
  · have z : ∀ m : Fin 64, Builtin.Range.small 0 ((m : Nat) : Int) 12 = true := by decide +kernel
    exact z ⟨m, by omega⟩
  · rw [PyProof.Rows.rangeSize_pos (by decide) (by omega)]
    omega
theorem pure_law (h : sp_law d vs H Q E) : t_law d { nx := fun _ H' => Q .non H', rt := Q } (start N_law vs) H := by
  refine law_pure h fun ns hns => ?_
  show WS d.K (t_law d) [some (.scr ns), none, none, none, none] _ _
  unfold t_law
  walk_at "mgo"
  rw [cutD_map]
  walk_at "dat"
  refine d_sum (SeqD.lst _) ?_
  walk_at "mgo"
  refine ⟨_, rfl, fun q n0 n1 n2 hq k0 k1 k2 => ?_⟩
  refine fz_new hq ?_
  have hnm : Names [n0, n1, n2] := ⟨rfl, fun s hs => by
    simp only [List.mem_cons, List.not_mem_nil, or_false] at hs
    rcases hs with rfl | rfl | rfl
    · exact k0
    · exact k1
    · exact k2⟩
  walk_at "mgo"
  rw [List.length_map]
  obtain ⟨mm, em, bm⟩ : ∃ m : Nat, (if ((ns.length : Nat) : Int) > 1 then ((ns.length : Nat) : Int) else 1) = (m : Nat) ∧ m ≤ 63 := by
    split
    · exact ⟨ns.length, rfl, hns⟩
    · exact ⟨1, rfl, by decide⟩
  rw [em]
  refine ⟨0, mm, 12, _, rfl, rgc12 bm, ?_⟩
  refine ⟨fun i e W' => e = [some (.scr ns), some (.lst [.str n0, .str n1, .str n2]), none, none, none] ∧ W' = W0, nx_id ⟨rfl, rfl⟩, fun _ _ _ _ _ => trivial, ?_, ?_⟩
  · rintro i u e' W' hi hu ⟨rfl, rfl⟩
    cases hu
    walk_at "mgo"
    rw [cutD_map, show (0 + (i : Nat) * 12 : Int) = ((12 * i : Nat) : Int) from by omega, show (((12 * i : Nat) : Int) + 12) = ((12 * i + 12 : Nat) : Int) from by omega]
    walk_at "dat"
    have cl := cutD_len ns (12 * i) (12 * i + 12)
    refine ⟨_, 3, _, rfl, _, [n0, n1, n2], SeqD.lst _, by omega, SeqD.lst _, hnm, by omega, fun ps ok l n => ?_⟩
    have ll := len_lenP ps
    have rl := rowsFrom_len ps 0
    walk_at "mgo"
    refine ⟨_, rfl, ps, SeqD.lst _, by omega, by omega, by omega, ?_⟩
    walk_at "mgo"
    refine ⟨_, rfl, ps, SeqD.lst _, by omega, by omega, fun q hq => ?_⟩
    refine fz_new hq ?_
    walk_at "mgo"
    refine w_ff (dB_f (by rw [List.length_map, List.length_append]; simp; omega)) ?_
    walk_at "mgo"
    refine ⟨_, rfl, ps, ok, rfl, by omega, ?_⟩
    walk_at "mgo"
    rw [List.length_map, List.length_append, rl, show (((lenPs ps + ([[V.str "lay"]] : Rows).length : Nat) : Int) - 1) = ((0 + lenPs ps : Nat) : Int) from by simp]
    refine ⟨_, 0, _, rfl, ps, fun i r hr => ?_, rfl, ok, by omega, by omega, ?_⟩
    · rw [Nat.zero_add, List.getElem?_append_left (List.getElem?_eq_some_iff.mp hr).1]; exact hr
    walk_at "mgo"
    obtain ⟨pp, e1, e2⟩ := (Lay.lst (n := ndPs ps) (m := 64) (lay_trs ps ok) (by omega)).shaped (by decide)
    refine d_neD (.id _) (.id _) e1 e1 e2 e2 (eqv_self e2) ?_
    walk_at "mgo"
    exact nx_le (by walk_at "le") ⟨rfl, rfl⟩
  · rintro e' W' ⟨rfl, rfl⟩
    walk_at "mgo"
    exact ret_dat (Sub.refl _) rfl
end
end RT

set_option Elab.async false
set_option linter.all false
set_option maxRecDepth 100000
set_option maxHeartbeats 2000000
namespace Row
open PySem L2 RT
local macro_rules | `(tactic| walk_at "putf") => `(tactic| first | exact putF_nil | exact putF_hit | exact putF_miss (by decide) (by walk_at "putf"))
local macro_rules | `(tactic| walk_at "ne") => `(tactic| first | assumption | exact Ne.symm (by assumption) | ((refine' ne2 ?h1 ?h2); (case h1 => assumption); (case h2 => walk_at "hk")) | ((refine' ne2s ?h1 ?h2); (case h1 => assumption); (case h2 => walk_at "hk")) | exact ne_head (by assumption) | exact ne_of (by assumption) (by assumption) (by intro z; cases z))
local macro_rules | `(tactic| walk_at "hk") => `(tactic| first | assumption | with_reducible exact upd_same | ((with_reducible refine' up_ne ?h1 ?h2); (case h1 => walk_at "ne"); (case h2 => walk_at "hk")) | ((with_reducible refine' ex_at ?h1 ?h2); (case h1 => assumption); (case h2 => walk_at "hk")))
local macro_rules | `(tactic| walk_at "kit") => `(tactic| first | exact kit_int_int | exact kit_int_bool | exact kit_int_str | exact kit_int_list | exact kit_int_tuple | exact kit_int_dict | exact kit_bool_int | exact kit_bool_bool | exact kit_bool_str | exact kit_bool_list | exact kit_bool_tuple | exact kit_bool_dict | exact kit_str_int | exact kit_str_bool | exact kit_str_str | exact kit_str_list | exact kit_str_tuple | exact kit_str_dict | exact kit_NoneType_int | exact kit_NoneType_bool | exact kit_NoneType_str | exact kit_NoneType_list | exact kit_NoneType_tuple | exact kit_NoneType_dict | exact kit_list_int | exact kit_list_bool | exact kit_list_str | exact kit_list_list | exact kit_list_tuple | exact kit_list_dict | exact kit_tuple_int | exact kit_tuple_bool | exact kit_tuple_str | exact kit_tuple_list | exact kit_tuple_tuple | exact kit_tuple_dict | exact kit_dict_int | exact kit_dict_bool | exact kit_dict_str | exact kit_dict_list | exact kit_dict_tuple | exact kit_dict_dict)
local macro_rules | `(tactic| walk_at "sq") => `(tactic| first | assumption | ((with_reducible refine' SqL.of ?h); (case h => walk_at "hk")) | ((with_reducible refine' ex_sq ?h1 ?h2); (case h1 => assumption); (case h2 => walk_at "sq")))
local macro_rules | `(tactic| walk_at "st") => `(tactic| first | assumption | ((with_reducible refine' SqT.of ?h); (case h => walk_at "hk")) | ((with_reducible refine' ex_st ?h1 ?h2); (case h1 => assumption); (case h2 => walk_at "st")))
local macro_rules | `(tactic| walk_at "new") => `(tactic| (intro p hp; generalize hU : upd _ p _ = H'; have e1 := new_ex hp hU; have e2 := new_at hU; clear hU))
local macro_rules | `(tactic| walk_at "set") => `(tactic| ((try simp only [List.set_cons_succ, List.set_cons_zero]); rfl))
local macro_rules | `(tactic| walk_at "small") => `(tactic| first | assumption | (rw [sizeLine_eq]; (try simp only [List.length_cons, List.length_nil, str_len_app, sign_len]); omega) | (with_unfolding_all decide))
local macro_rules | `(tactic| walk_at "sc") => `(tactic| first | assumption | decide | omega | (unfold CMul; omega) | (unfold CDiv; omega) | (unfold CPow; decide) | (unfold CDiv; decide))
local macro_rules | `(tactic| walk_at "step") => `(tactic| first
  | with_reducible refine' w_seq ?_
  | with_reducible refine' w_op ?_
  | ((with_reducible refine' w_var ?h ?_); (case h => rfl))
  | with_reducible refine' w_c ?_
  | with_reducible refine' w_i0 ?_
  | with_reducible refine' w_cons ?_
  | with_reducible refine' w_nil ?_
  | with_reducible refine' w_asg ?_
  | ((with_reducible refine' w_gn ?e ?_); (case e => walk_at "set"))
  | with_reducible refine' w_ifS ?_
  | with_reducible refine' w_test ?_
  | with_reducible refine' w_tB ?_
  | with_reducible refine' w_bl ?_
  | with_reducible refine' w_int ?_
  | with_reducible refine' w_ref ?_
  | with_reducible refine' w_str ?_
  | with_reducible refine' w_eqI ?_
  | with_reducible refine' w_neI ?_
  | with_reducible refine' w_eqS ?_
  | with_reducible refine' w_neS ?_
  | with_reducible refine' w_ret ?_
  | with_reducible refine' w_for ?_
  | with_reducible refine' w_tFld ?_
  | ((with_reducible refine' w_fld ?h ?c ?n ?l ?_); (case h => walk_at "hk"); (case c => assumption); (case n => assumption); (case l => rfl))
  | with_reducible refine' w_sFld ?_
  | ((with_reducible refine' w_rsFld ?h ?c ?n ?l ?e ?_); (case h => walk_at "hk"); (case c => assumption); (case n => assumption); (case e => walk_at "putf"); (case l => (simp only [List.length_cons, List.length_nil]; omega)))
  | with_reducible refine' w_tDGet ?_
  | with_reducible refine' w_tDIn ?_
  | with_reducible refine' w_tDNotIn ?_
  | ((with_reducible refine' w_dinI ?h ?_); (case h => walk_at "hk"))
  | with_reducible refine' w_sDPut ?_
  | with_reducible refine' w_bm ?_
  | with_reducible refine' w_bm0 ?_
  | ((with_reducible refine' w_tyL ?h ?_); (case h => walk_at "sq"))
  | with_reducible refine' w_iRev ?_
  | ((with_reducible refine' w_rev1 ?h ?_); (case h => walk_at "sq"))
  | with_reducible refine' w_iItems ?_
  | with_reducible refine' w_iKeys ?_
  | with_reducible refine' w_iRng3 ?_
  | with_reducible refine' w_iZip ?_
  | with_reducible refine' w_gCons ?_
  | with_reducible refine' w_gNil ?_
  | ((with_reducible refine' w_gTup ?h ?l ?_); (case h => walk_at "st"); (case l => rfl))
  | with_reducible refine' w_m1 ?_
  | with_reducible refine' w_isS ?_
  | with_reducible refine' w_lc ?_
  | with_reducible refine' w_iList ?_
  | with_reducible refine' w_iTup ?_
  | with_reducible refine' w_iStr ?_
  | with_reducible refine' w_iRng1 ?_
  | with_reducible refine' w_iRng2 ?_
  | with_reducible refine' w_v1I ?_
  | with_reducible refine' w_v2I ?_
  | with_reducible refine' w_next ?_
  | with_reducible refine' w_call ?_
  | with_reducible refine' w_cb ?_
  | with_reducible refine' w_and ?_
  | with_reducible refine' w_or ?_
  | with_reducible refine' w_not ?_
  | with_reducible refine' w_andV ?_
  | with_reducible refine' w_orV ?_
  | with_reducible refine' w_notV ?_
  | with_reducible refine' w_ifE ?_
  | with_reducible refine' w_drop ?_
  | with_reducible refine' w_un ?_
  | with_reducible refine' w_u ?_
  | with_reducible refine' w_isNN ?_
  | with_reducible refine' w_isNI ?_
  | with_reducible refine' w_isNS ?_
  | with_reducible refine' w_isNR ?_
  | with_reducible refine' w_notNN ?_
  | with_reducible refine' w_notNI ?_
  | with_reducible refine' w_notNS ?_
  | with_reducible refine' w_notNR ?_
  | with_reducible refine' w_int1 ?_
  | with_reducible refine' w_int1b ?_
  | with_reducible refine' w_tup ?_
  | with_reducible refine' w_lst ?_
  | with_reducible refine' w_dnew ?_
  | with_reducible refine' w_sl ?_
  | with_reducible refine' w_noPart ?_
  | with_reducible refine' w_part ?_
  | with_reducible refine' w_retN ?_
  | with_reducible refine' w_brk ?_
  | with_reducible refine' w_cont ?_
  | with_reducible refine' w_chain ?_
  | with_reducible refine' w_lt ?_
  | with_reducible refine' w_le ?_
  | with_reducible refine' w_gt ?_
  | with_reducible refine' w_ge ?_
  | with_reducible refine' w_ltS ?_
  | with_reducible refine' w_leS ?_
  | with_reducible refine' w_gtS ?_
  | with_reducible refine' w_geS ?_
  | ((with_reducible refine' w_addS ?h ?_); (case h => walk_at "small"))
  | with_reducible refine' w_inS ?_
  | with_reducible refine' w_ninS ?_
  | with_reducible refine' w_par ?_
  | with_reducible refine' w_v2 ?_
  | with_reducible refine' w_max2 ?_
  | with_reducible refine' w_min2 ?_
  | with_reducible refine' w_tru ?_
  | with_reducible refine' w_meth ?_
  | ((with_reducible refine' w_meth1 ?h ?l ?_); (case h => walk_at "hk"); (case l => rfl))
  | with_reducible refine' w_make ?_
  | ((with_reducible refine' w_isiI ?h ?_); (case h => walk_at "kit"))
  | ((with_reducible refine' w_isiB ?h ?_); (case h => walk_at "kit"))
  | ((with_reducible refine' w_isiN ?h ?_); (case h => walk_at "kit"))
  | ((with_reducible refine' w_isiS ?h ?_); (case h => walk_at "kit"))
  | ((with_reducible refine' w_isiSL ?h ?e ?_); (case h => walk_at "sq"); (case e => walk_at "kit"))
  | ((with_reducible refine' w_isiST ?h ?e ?_); (case h => walk_at "st"); (case e => walk_at "kit"))
  | ((with_reducible refine' w_i ?h ?_); (case h => walk_at "sc"))
  | with_reducible refine' w_ttL ?_
  | with_reducible refine' w_ffL ?_
  | ((with_reducible refine' w_tt ?h ?_); (case h => first | exact dB_t (by decide) | exact nB_t (by decide) | decide))
  | ((with_reducible refine' w_ff ?h ?_); (case h => first | exact dB_f (by decide) | exact nB_f (by decide) | decide))
  | ((with_reducible refine' w_lenS ?h ?_); (case h => walk_at "sq"))
  | ((with_reducible refine' w_lenT ?h ?_); (case h => walk_at "st"))
  | ((with_reducible refine' w_slL ?h ?_); (case h => walk_at "sq"))
  | ((with_reducible refine' w_aug ?h ?_); (case h => rfl))
  | with_reducible refine' w_ip ?_
  | ((with_reducible refine' w_cat ?h1 ?h2 ?h3 ?_); (case h1 => walk_at "hk"); (case h2 => walk_at "hk"); (case h3 => walk_at "small"))
  | ((with_reducible refine' w_ixL ?h1 ?h2 ?_); (case h1 => walk_at "sq"); (case h2 => rfl))
  | ((with_reducible refine' w_ixT ?h1 ?h2 ?_); (case h1 => walk_at "st"); (case h2 => rfl))
  | ((with_reducible refine' w_lenStr ?h ?_); (case h => walk_at "small"))
  | ((with_reducible refine' w_slS ?h ?_); (case h => walk_at "small"))
  | ((with_reducible refine' w_sz ?h ?_); (case h => walk_at "small")))
local macro_rules | `(tactic| walk_at "go") => `(tactic| (repeat (first | walk_at "step" | walk_at "callx")))
local macro_rules | `(tactic| walk_at "goN") => `(tactic| (repeat (first | walk_at "step" | walk_at "callx" | ((with_reducible show ∀ p, _ = none → _); walk_at "new"))))
local macro_rules | `(tactic| walk_at "len") => `(tactic| first
  | (obtain ⟨rfl, _⟩ := h; rfl) | (obtain ⟨_, rfl, _⟩ := h; rfl) | (obtain ⟨_, _, rfl, _⟩ := h; rfl) | (obtain ⟨_, _, _, rfl, _⟩ := h; rfl) | (obtain ⟨_, _, _, _, rfl, _⟩ := h; rfl)
  | (obtain ⟨_, _, _, _, _, rfl, _⟩ := h; rfl) | (obtain ⟨_, _, _, _, _, _, rfl, _⟩ := h; rfl) | (obtain ⟨_, _, _, _, _, _, _, rfl, _⟩ := h; rfl) | (obtain ⟨_, _, _, _, _, _, _, _, rfl, _⟩ := h; rfl)
  | (obtain ⟨_, _, _, _, _, _, _, _, _, rfl, _⟩ := h; rfl) | (obtain ⟨_, _, _, _, _, _, _, _, _, _, rfl, _⟩ := h; rfl))
local macro_rules | `(tactic| walk_at "dec") => `(tactic| (first | with_reducible apply w_dec | with_reducible apply w_ndec | with_reducible apply w_bool) <;> intro hc)
def top (i : Nat) : Stmt := PySem.Challenge.pw_retryhall_k13_whole_rows_forward.main.body.getD i (.Pass ⟨0, 0, 0, 0⟩)
abbrev s_Let_init : Stmt := inClass (top 3) 0
theorem sc_Let_init : FnScope N_Let_init ["self", "slot", "number"] (defScope s_Let_init) := ⟨rfl, rfl, rfl, by decide +kernel, rfl, by decide +kernel, by decide +kernel⟩
abbrev s_Reckon_init : Stmt := inClass (top 4) 0
theorem sc_Reckon_init : FnScope N_Reckon_init ["self", "word", "slot", "one", "other"] (defScope s_Reckon_init) := ⟨rfl, rfl, rfl, by decide +kernel, rfl, by decide +kernel, by decide +kernel⟩
abbrev s_Take_init : Stmt := inClass (top 5) 0
theorem sc_Take_init : FnScope N_Take_init ["self", "slot", "place"] (defScope s_Take_init) := ⟨rfl, rfl, rfl, by decide +kernel, rfl, by decide +kernel, by decide +kernel⟩
abbrev s_Put_init : Stmt := inClass (top 6) 0
theorem sc_Put_init : FnScope N_Put_init ["self", "place", "slot"] (defScope s_Put_init) := ⟨rfl, rfl, rfl, by decide +kernel, rfl, by decide +kernel, by decide +kernel⟩
abbrev s_If_init : Stmt := inClass (top 7) 0
theorem sc_If_init : FnScope N_If_init ["self", "slot", "parts", "others"] (defScope s_If_init) := ⟨rfl, rfl, rfl, by decide +kernel, rfl, by decide +kernel, by decide +kernel⟩
abbrev s_Either_init : Stmt := inClass (top 8) 0
theorem sc_Either_init : FnScope N_Either_init ["self", "parts", "others"] (defScope s_Either_init) := ⟨rfl, rfl, rfl, by decide +kernel, rfl, by decide +kernel, by decide +kernel⟩
abbrev s_Try_init : Stmt := inClass (top 9) 0
theorem sc_Try_init : FnScope N_Try_init ["self", "parts", "name", "slot", "others"] (defScope s_Try_init) := ⟨rfl, rfl, rfl, by decide +kernel, rfl, by decide +kernel, by decide +kernel⟩
abbrev s_Throw_init : Stmt := inClass (top 10) 0
theorem sc_Throw_init : FnScope N_Throw_init ["self", "name", "slot"] (defScope s_Throw_init) := ⟨rfl, rfl, rfl, by decide +kernel, rfl, by decide +kernel, by decide +kernel⟩
abbrev s_plain_row : Stmt := top 13
theorem sc_plain_row : FnScope N_plain_row ["part"] (defScope s_plain_row) := ⟨rfl, rfl, rfl, by decide +kernel, rfl, by decide +kernel, by decide +kernel⟩
abbrev s_two_sides : Stmt := top 14
theorem sc_two_sides : FnScope N_two_sides ["head", "part", "first", "closing"] (defScope s_two_sides) := ⟨rfl, rfl, rfl, by decide +kernel, rfl, by decide +kernel, by decide +kernel⟩
abbrev s_part_rows : Stmt := top 15
theorem sc_part_rows : FnScope N_part_rows ["part", "first"] (defScope s_part_rows) := ⟨rfl, rfl, rfl, by decide +kernel, rfl, by decide +kernel, by decide +kernel⟩
abbrev s_rows_from : Stmt := top 16
theorem sc_rows_from : FnScope N_rows_from ["parts", "first"] (defScope s_rows_from) := ⟨rfl, rfl, rfl, by decide +kernel, rfl, by decide +kernel, by decide +kernel⟩
abbrev s_rows_of : Stmt := top 17
theorem sc_rows_of : FnScope N_rows_of ["deed"] (defScope s_rows_of) := ⟨rfl, rfl, rfl, by decide +kernel, rfl, by decide +kernel, by decide +kernel⟩
abbrev s_l_mixed : Stmt := top 19
theorem sc_l_mixed : FnScope N_l_mixed ["_law_cell"] (defScope s_l_mixed) := ⟨rfl, rfl, rfl, by decide +kernel, rfl, by decide +kernel, by decide +kernel⟩
abbrev s_l_wide : Stmt := top 20
theorem sc_l_wide : FnScope N_l_wide ["_law_cell"] (defScope s_l_wide) := ⟨rfl, rfl, rfl, by decide +kernel, rfl, by decide +kernel, by decide +kernel⟩
abbrev s_l_names : Stmt := top 21
theorem sc_l_names : FnScope N_l_names ["_law_cell"] (defScope s_l_names) := ⟨rfl, rfl, rfl, by decide +kernel, rfl, by decide +kernel, by decide +kernel⟩
abbrev s_l_plain : Stmt := top 22
theorem sc_l_plain : FnScope N_l_plain ["_law_mixed_here", "_law_cell"] (defScope s_l_plain) := ⟨rfl, rfl, rfl, by decide +kernel, rfl, by decide +kernel, by decide +kernel⟩
abbrev s_l_sided : Stmt := top 23
theorem sc_l_sided : FnScope N_l_sided ["_law_mixed_here", "_law_one", "_law_other", "_law_names_here"] (defScope s_l_sided) := ⟨rfl, rfl, rfl, by decide +kernel, rfl, by decide +kernel, by decide +kernel⟩
abbrev s_l_tree : Stmt := top 24
theorem sc_l_tree : FnScope N_l_tree ["_law_cells", "_law_depth", "_law_names_here"] (defScope s_l_tree) := ⟨rfl, rfl, rfl, by decide +kernel, rfl, by decide +kernel, by decide +kernel⟩
abbrev s_l_made : Stmt := top 25
theorem sc_l_made : FnScope N_l_made ["_law_tree_here"] (defScope s_l_made) := ⟨rfl, rfl, rfl, by decide +kernel, rfl, by decide +kernel, by decide +kernel⟩
abbrev s_l_ahead : Stmt := top 26
theorem sc_l_ahead : FnScope N_l_ahead ["_law_rows"] (defScope s_l_ahead) := ⟨rfl, rfl, rfl, by decide +kernel, rfl, by decide +kernel, by decide +kernel⟩
abbrev s_l_one_back : Stmt := top 27
theorem sc_l_one_back : FnScope N_l_one_back ["_law_row"] (defScope s_l_one_back) := ⟨rfl, rfl, rfl, by decide +kernel, rfl, by decide +kernel, by decide +kernel⟩
abbrev s_l_joined : Stmt := top 29
theorem sc_l_joined : FnScope N_l_joined ["_law_row", "_law_one", "_law_other"] (defScope s_l_joined) := ⟨rfl, rfl, rfl, by decide +kernel, rfl, by decide +kernel, by decide +kernel⟩
abbrev s_l_back : Stmt := top 28
theorem sc_l_back : FnScope N_l_back ["_law_rows", "_law_at", "_law_end"] (defScope s_l_back) := ⟨rfl, rfl, rfl, by decide +kernel, rfl, by decide +kernel, by decide +kernel⟩
abbrev s_law : Stmt := top 30
theorem sc_law : FnScope N_law ["_law_script"] (defScope s_law) := ⟨rfl, rfl, rfl, by decide +kernel, rfl, by decide +kernel, by decide +kernel⟩
structure Fs where
  f_Let_init : Addr
  d_Let_init : FuncData
  f_Reckon_init : Addr
  d_Reckon_init : FuncData
  f_Take_init : Addr
  d_Take_init : FuncData
  f_Put_init : Addr
  d_Put_init : FuncData
  f_If_init : Addr
  d_If_init : FuncData
  f_Either_init : Addr
  d_Either_init : FuncData
  f_Try_init : Addr
  d_Try_init : FuncData
  f_Throw_init : Addr
  d_Throw_init : FuncData
  f_plain_row : Addr
  d_plain_row : FuncData
  f_two_sides : Addr
  d_two_sides : FuncData
  f_part_rows : Addr
  d_part_rows : FuncData
  f_rows_from : Addr
  d_rows_from : FuncData
  f_rows_of : Addr
  d_rows_of : FuncData
  f_l_mixed : Addr
  d_l_mixed : FuncData
  f_l_wide : Addr
  d_l_wide : FuncData
  f_l_names : Addr
  d_l_names : FuncData
  f_l_plain : Addr
  d_l_plain : FuncData
  f_l_sided : Addr
  d_l_sided : FuncData
  f_l_tree : Addr
  d_l_tree : FuncData
  f_l_made : Addr
  d_l_made : FuncData
  f_l_ahead : Addr
  d_l_ahead : FuncData
  f_l_one_back : Addr
  d_l_one_back : FuncData
  f_l_joined : Addr
  d_l_joined : FuncData
  f_l_back : Addr
  d_l_back : FuncData
  f_law : Addr
  d_law : FuncData
structure Txt (d : Ad) (mg : Str → Option Value) (z : Fs) : Prop where
  F_Let_init : Fun d.K "__init__" "Let.__init__" s_Let_init z.f_Let_init z.d_Let_init
  B_Let_init : Binds d.K z.d_Let_init ["self", "slot", "number"] []
  K_Let : Mk d.K d.cLet z.f_Let_init
  F_Reckon_init : Fun d.K "__init__" "Reckon.__init__" s_Reckon_init z.f_Reckon_init z.d_Reckon_init
  B_Reckon_init : Binds d.K z.d_Reckon_init ["self", "word", "slot", "one", "other"] []
  K_Reckon : Mk d.K d.cReckon z.f_Reckon_init
  F_Take_init : Fun d.K "__init__" "Take.__init__" s_Take_init z.f_Take_init z.d_Take_init
  B_Take_init : Binds d.K z.d_Take_init ["self", "slot", "place"] []
  K_Take : Mk d.K d.cTake z.f_Take_init
  F_Put_init : Fun d.K "__init__" "Put.__init__" s_Put_init z.f_Put_init z.d_Put_init
  B_Put_init : Binds d.K z.d_Put_init ["self", "place", "slot"] []
  K_Put : Mk d.K d.cPut z.f_Put_init
  F_If_init : Fun d.K "__init__" "If.__init__" s_If_init z.f_If_init z.d_If_init
  B_If_init : Binds d.K z.d_If_init ["self", "slot", "parts", "others"] []
  K_If : Mk d.K d.cIf z.f_If_init
  F_Either_init : Fun d.K "__init__" "Either.__init__" s_Either_init z.f_Either_init z.d_Either_init
  B_Either_init : Binds d.K z.d_Either_init ["self", "parts", "others"] []
  K_Either : Mk d.K d.cEither z.f_Either_init
  F_Try_init : Fun d.K "__init__" "Try.__init__" s_Try_init z.f_Try_init z.d_Try_init
  B_Try_init : Binds d.K z.d_Try_init ["self", "parts", "name", "slot", "others"] []
  K_Try : Mk d.K d.cTry z.f_Try_init
  F_Throw_init : Fun d.K "__init__" "Throw.__init__" s_Throw_init z.f_Throw_init z.d_Throw_init
  B_Throw_init : Binds d.K z.d_Throw_init ["self", "name", "slot"] []
  K_Throw : Mk d.K d.cThrow z.f_Throw_init
  F_plain_row : Fun d.K "plain_row" "plain_row" s_plain_row z.f_plain_row z.d_plain_row
  B_plain_row : Binds d.K z.d_plain_row ["part"] []
  m_plain_row : mg "plain_row" = some (.ref z.f_plain_row)
  F_two_sides : Fun d.K "two_sides" "two_sides" s_two_sides z.f_two_sides z.d_two_sides
  B_two_sides : Binds d.K z.d_two_sides ["head", "part", "first", "closing"] []
  m_two_sides : mg "two_sides" = some (.ref z.f_two_sides)
  F_part_rows : Fun d.K "part_rows" "part_rows" s_part_rows z.f_part_rows z.d_part_rows
  B_part_rows : Binds d.K z.d_part_rows ["part", "first"] []
  m_part_rows : mg "part_rows" = some (.ref z.f_part_rows)
  F_rows_from : Fun d.K "rows_from" "rows_from" s_rows_from z.f_rows_from z.d_rows_from
  B_rows_from : Binds d.K z.d_rows_from ["parts", "first"] []
  m_rows_from : mg "rows_from" = some (.ref z.f_rows_from)
  F_rows_of : Fun d.K "rows_of" "rows_of" s_rows_of z.f_rows_of z.d_rows_of
  B_rows_of : Binds d.K z.d_rows_of ["deed"] []
  m_rows_of : mg "rows_of" = some (.ref z.f_rows_of)
  F_l_mixed : Fun d.K "_law_mixed" "_law_mixed" s_l_mixed z.f_l_mixed z.d_l_mixed
  B_l_mixed : Binds d.K z.d_l_mixed ["_law_cell"] []
  m_l_mixed : mg "_law_mixed" = some (.ref z.f_l_mixed)
  F_l_wide : Fun d.K "_law_wide" "_law_wide" s_l_wide z.f_l_wide z.d_l_wide
  B_l_wide : Binds d.K z.d_l_wide ["_law_cell"] []
  m_l_wide : mg "_law_wide" = some (.ref z.f_l_wide)
  F_l_names : Fun d.K "_law_names" "_law_names" s_l_names z.f_l_names z.d_l_names
  B_l_names : Binds d.K z.d_l_names ["_law_cell"] []
  m_l_names : mg "_law_names" = some (.ref z.f_l_names)
  F_l_plain : Fun d.K "_law_plain" "_law_plain" s_l_plain z.f_l_plain z.d_l_plain
  B_l_plain : Binds d.K z.d_l_plain ["_law_mixed_here", "_law_cell"] []
  m_l_plain : mg "_law_plain" = some (.ref z.f_l_plain)
  F_l_sided : Fun d.K "_law_sided" "_law_sided" s_l_sided z.f_l_sided z.d_l_sided
  B_l_sided : Binds d.K z.d_l_sided ["_law_mixed_here", "_law_one", "_law_other", "_law_names_here"] []
  m_l_sided : mg "_law_sided" = some (.ref z.f_l_sided)
  F_l_tree : Fun d.K "_law_tree" "_law_tree" s_l_tree z.f_l_tree z.d_l_tree
  B_l_tree : Binds d.K z.d_l_tree ["_law_cells", "_law_depth", "_law_names_here"] []
  m_l_tree : mg "_law_tree" = some (.ref z.f_l_tree)
  F_l_made : Fun d.K "_law_made" "_law_made" s_l_made z.f_l_made z.d_l_made
  B_l_made : Binds d.K z.d_l_made ["_law_tree_here"] []
  m_l_made : mg "_law_made" = some (.ref z.f_l_made)
  F_l_ahead : Fun d.K "_law_ahead" "_law_ahead" s_l_ahead z.f_l_ahead z.d_l_ahead
  B_l_ahead : Binds d.K z.d_l_ahead ["_law_rows"] []
  m_l_ahead : mg "_law_ahead" = some (.ref z.f_l_ahead)
  F_l_one_back : Fun d.K "_law_one_back" "_law_one_back" s_l_one_back z.f_l_one_back z.d_l_one_back
  B_l_one_back : Binds d.K z.d_l_one_back ["_law_row"] []
  m_l_one_back : mg "_law_one_back" = some (.ref z.f_l_one_back)
  F_l_joined : Fun d.K "_law_joined" "_law_joined" s_l_joined z.f_l_joined z.d_l_joined
  B_l_joined : Binds d.K z.d_l_joined ["_law_row", "_law_one", "_law_other"] []
  m_l_joined : mg "_law_joined" = some (.ref z.f_l_joined)
  F_l_back : Fun d.K "_law_back" "_law_back" s_l_back z.f_l_back z.d_l_back
  B_l_back : Binds d.K z.d_l_back ["_law_rows", "_law_at", "_law_end"] []
  m_l_back : mg "_law_back" = some (.ref z.f_l_back)
  F_law : Fun d.K "law" "law" s_law z.f_law z.d_law
  B_law : Binds d.K z.d_law ["_law_script"] []
  m_law : mg "law" = some (.ref z.f_law)
  b_bool : mg "bool" = none
  b_int : mg "int" = none
  b_isinstance : mg "isinstance" = none
  b_len : mg "len" = none
  b_list : mg "list" = none
  b_max : mg "max" = none
  b_range : mg "range" = none
  b_sum : mg "sum" = none
  b_tuple : mg "tuple" = none
  g_Let : mg "Let" = some (.ref d.cLet)
  g_Reckon : mg "Reckon" = some (.ref d.cReckon)
  g_Take : mg "Take" = some (.ref d.cTake)
  g_Put : mg "Put" = some (.ref d.cPut)
  g_If : mg "If" = some (.ref d.cIf)
  g_Either : mg "Either" = some (.ref d.cEither)
  g_Try : mg "Try" = some (.ref d.cTry)
  g_Throw : mg "Throw" = some (.ref d.cThrow)
  g_Wait : mg "Wait" = some (.ref d.cWait)
  MO_Wait : MkO d.K d.cWait
  t_Parts : TParts d
section
variable {P : Program} {w : World} {mg : Str → Option Value} {base : Heap} {d : Ad} {z : Fs}
theorem ok_Let_init (T : Txt d mg z) : FnOk P w d.K mg base CX0 1 z.f_Let_init z.d_Let_init ["self", "slot", "number"] (sp_Let_init d) := by
  refine T.F_Let_init.ok sc_Let_init (fun vs H Q E h => by first | (exact lift_len (fun ds W Q h => by first | (obtain ⟨rfl, _⟩ := h; rfl) | (obtain ⟨_, rfl, _⟩ := h; rfl) | (obtain ⟨_, _, rfl, _⟩ := h; rfl) | (obtain ⟨_, _, _, rfl, _⟩ := h; rfl) | (obtain ⟨_, _, _, _, rfl, _⟩ := h; rfl) | (obtain ⟨_, _, _, _, _, rfl, _⟩ := h; rfl) | (obtain ⟨_, _, _, _, _, _, rfl, _⟩ := h; rfl) | (obtain ⟨_, _, _, _, _, _, _, rfl, _⟩ := h; rfl) | (obtain ⟨_, _, _, _, _, _, _, _, rfl, _⟩ := h; rfl) | (obtain ⟨_, _, _, _, _, _, _, _, _, rfl, _⟩ := h; rfl) | (obtain ⟨_, _, _, _, _, _, _, _, _, _, rfl, _⟩ := h; rfl)) h) | (obtain ⟨rfl, _⟩ := h; rfl) | (obtain ⟨_, rfl, _⟩ := h; rfl) | (obtain ⟨_, _, rfl, _⟩ := h; rfl) | (obtain ⟨_, _, _, rfl, _⟩ := h; rfl) | (obtain ⟨_, _, _, _, rfl, _⟩ := h; rfl) | (obtain ⟨_, _, _, _, _, rfl, _⟩ := h; rfl) | (obtain ⟨_, _, _, _, _, _, rfl, _⟩ := h; rfl) | (obtain ⟨_, _, _, _, _, _, _, rfl, _⟩ := h; rfl) | (obtain ⟨_, _, _, _, _, _, _, _, rfl, _⟩ := h; rfl) | (obtain ⟨_, _, _, _, _, _, _, _, _, rfl, _⟩ := h; rfl) | (obtain ⟨_, _, _, _, _, _, _, _, _, _, rfl, _⟩ := h; rfl)) (fun cdv A outer s H vs Q E hr h => ⟨t_Let_init d, ?_, pure_Let_init T.t_Parts h⟩)
  exact (pss_cons (ps_fld (pv 0) (pv 1) rfl)
      (pss_one (ps_fld (pv 0) (pv 2) rfl)))
theorem ok_Reckon_init (T : Txt d mg z) : FnOk P w d.K mg base CX0 1 z.f_Reckon_init z.d_Reckon_init ["self", "word", "slot", "one", "other"] (sp_Reckon_init d) := by
  refine T.F_Reckon_init.ok sc_Reckon_init (fun vs H Q E h => by first | (exact lift_len (fun ds W Q h => by first | (obtain ⟨rfl, _⟩ := h; rfl) | (obtain ⟨_, rfl, _⟩ := h; rfl) | (obtain ⟨_, _, rfl, _⟩ := h; rfl) | (obtain ⟨_, _, _, rfl, _⟩ := h; rfl) | (obtain ⟨_, _, _, _, rfl, _⟩ := h; rfl) | (obtain ⟨_, _, _, _, _, rfl, _⟩ := h; rfl) | (obtain ⟨_, _, _, _, _, _, rfl, _⟩ := h; rfl) | (obtain ⟨_, _, _, _, _, _, _, rfl, _⟩ := h; rfl) | (obtain ⟨_, _, _, _, _, _, _, _, rfl, _⟩ := h; rfl) | (obtain ⟨_, _, _, _, _, _, _, _, _, rfl, _⟩ := h; rfl) | (obtain ⟨_, _, _, _, _, _, _, _, _, _, rfl, _⟩ := h; rfl)) h) | (obtain ⟨rfl, _⟩ := h; rfl) | (obtain ⟨_, rfl, _⟩ := h; rfl) | (obtain ⟨_, _, rfl, _⟩ := h; rfl) | (obtain ⟨_, _, _, rfl, _⟩ := h; rfl) | (obtain ⟨_, _, _, _, rfl, _⟩ := h; rfl) | (obtain ⟨_, _, _, _, _, rfl, _⟩ := h; rfl) | (obtain ⟨_, _, _, _, _, _, rfl, _⟩ := h; rfl) | (obtain ⟨_, _, _, _, _, _, _, rfl, _⟩ := h; rfl) | (obtain ⟨_, _, _, _, _, _, _, _, rfl, _⟩ := h; rfl) | (obtain ⟨_, _, _, _, _, _, _, _, _, rfl, _⟩ := h; rfl) | (obtain ⟨_, _, _, _, _, _, _, _, _, _, rfl, _⟩ := h; rfl)) (fun cdv A outer s H vs Q E hr h => ⟨t_Reckon_init d, ?_, pure_Reckon_init T.t_Parts h⟩)
  exact (pss_cons (ps_fld (pv 0) (pv 1) rfl)
      (pss_cons (ps_fld (pv 0) (pv 2) rfl)
      (pss_cons (ps_fld (pv 0) (pv 3) rfl)
      (pss_one (ps_fld (pv 0) (pv 4) rfl)))))
theorem ok_Take_init (T : Txt d mg z) : FnOk P w d.K mg base CX0 1 z.f_Take_init z.d_Take_init ["self", "slot", "place"] (sp_Take_init d) := by
  refine T.F_Take_init.ok sc_Take_init (fun vs H Q E h => by first | (exact lift_len (fun ds W Q h => by first | (obtain ⟨rfl, _⟩ := h; rfl) | (obtain ⟨_, rfl, _⟩ := h; rfl) | (obtain ⟨_, _, rfl, _⟩ := h; rfl) | (obtain ⟨_, _, _, rfl, _⟩ := h; rfl) | (obtain ⟨_, _, _, _, rfl, _⟩ := h; rfl) | (obtain ⟨_, _, _, _, _, rfl, _⟩ := h; rfl) | (obtain ⟨_, _, _, _, _, _, rfl, _⟩ := h; rfl) | (obtain ⟨_, _, _, _, _, _, _, rfl, _⟩ := h; rfl) | (obtain ⟨_, _, _, _, _, _, _, _, rfl, _⟩ := h; rfl) | (obtain ⟨_, _, _, _, _, _, _, _, _, rfl, _⟩ := h; rfl) | (obtain ⟨_, _, _, _, _, _, _, _, _, _, rfl, _⟩ := h; rfl)) h) | (obtain ⟨rfl, _⟩ := h; rfl) | (obtain ⟨_, rfl, _⟩ := h; rfl) | (obtain ⟨_, _, rfl, _⟩ := h; rfl) | (obtain ⟨_, _, _, rfl, _⟩ := h; rfl) | (obtain ⟨_, _, _, _, rfl, _⟩ := h; rfl) | (obtain ⟨_, _, _, _, _, rfl, _⟩ := h; rfl) | (obtain ⟨_, _, _, _, _, _, rfl, _⟩ := h; rfl) | (obtain ⟨_, _, _, _, _, _, _, rfl, _⟩ := h; rfl) | (obtain ⟨_, _, _, _, _, _, _, _, rfl, _⟩ := h; rfl) | (obtain ⟨_, _, _, _, _, _, _, _, _, rfl, _⟩ := h; rfl) | (obtain ⟨_, _, _, _, _, _, _, _, _, _, rfl, _⟩ := h; rfl)) (fun cdv A outer s H vs Q E hr h => ⟨t_Take_init d, ?_, pure_Take_init T.t_Parts h⟩)
  exact (pss_cons (ps_fld (pv 0) (pv 1) rfl)
      (pss_one (ps_fld (pv 0) (pv 2) rfl)))
theorem ok_Put_init (T : Txt d mg z) : FnOk P w d.K mg base CX0 1 z.f_Put_init z.d_Put_init ["self", "place", "slot"] (sp_Put_init d) := by
  refine T.F_Put_init.ok sc_Put_init (fun vs H Q E h => by first | (exact lift_len (fun ds W Q h => by first | (obtain ⟨rfl, _⟩ := h; rfl) | (obtain ⟨_, rfl, _⟩ := h; rfl) | (obtain ⟨_, _, rfl, _⟩ := h; rfl) | (obtain ⟨_, _, _, rfl, _⟩ := h; rfl) | (obtain ⟨_, _, _, _, rfl, _⟩ := h; rfl) | (obtain ⟨_, _, _, _, _, rfl, _⟩ := h; rfl) | (obtain ⟨_, _, _, _, _, _, rfl, _⟩ := h; rfl) | (obtain ⟨_, _, _, _, _, _, _, rfl, _⟩ := h; rfl) | (obtain ⟨_, _, _, _, _, _, _, _, rfl, _⟩ := h; rfl) | (obtain ⟨_, _, _, _, _, _, _, _, _, rfl, _⟩ := h; rfl) | (obtain ⟨_, _, _, _, _, _, _, _, _, _, rfl, _⟩ := h; rfl)) h) | (obtain ⟨rfl, _⟩ := h; rfl) | (obtain ⟨_, rfl, _⟩ := h; rfl) | (obtain ⟨_, _, rfl, _⟩ := h; rfl) | (obtain ⟨_, _, _, rfl, _⟩ := h; rfl) | (obtain ⟨_, _, _, _, rfl, _⟩ := h; rfl) | (obtain ⟨_, _, _, _, _, rfl, _⟩ := h; rfl) | (obtain ⟨_, _, _, _, _, _, rfl, _⟩ := h; rfl) | (obtain ⟨_, _, _, _, _, _, _, rfl, _⟩ := h; rfl) | (obtain ⟨_, _, _, _, _, _, _, _, rfl, _⟩ := h; rfl) | (obtain ⟨_, _, _, _, _, _, _, _, _, rfl, _⟩ := h; rfl) | (obtain ⟨_, _, _, _, _, _, _, _, _, _, rfl, _⟩ := h; rfl)) (fun cdv A outer s H vs Q E hr h => ⟨t_Put_init d, ?_, pure_Put_init T.t_Parts h⟩)
  exact (pss_cons (ps_fld (pv 0) (pv 1) rfl)
      (pss_one (ps_fld (pv 0) (pv 2) rfl)))
theorem ok_If_init (T : Txt d mg z) : FnOk P w d.K mg base CX0 1 z.f_If_init z.d_If_init ["self", "slot", "parts", "others"] (sp_If_init d) := by
  refine T.F_If_init.ok sc_If_init (fun vs H Q E h => by first | (exact lift_len (fun ds W Q h => by first | (obtain ⟨rfl, _⟩ := h; rfl) | (obtain ⟨_, rfl, _⟩ := h; rfl) | (obtain ⟨_, _, rfl, _⟩ := h; rfl) | (obtain ⟨_, _, _, rfl, _⟩ := h; rfl) | (obtain ⟨_, _, _, _, rfl, _⟩ := h; rfl) | (obtain ⟨_, _, _, _, _, rfl, _⟩ := h; rfl) | (obtain ⟨_, _, _, _, _, _, rfl, _⟩ := h; rfl) | (obtain ⟨_, _, _, _, _, _, _, rfl, _⟩ := h; rfl) | (obtain ⟨_, _, _, _, _, _, _, _, rfl, _⟩ := h; rfl) | (obtain ⟨_, _, _, _, _, _, _, _, _, rfl, _⟩ := h; rfl) | (obtain ⟨_, _, _, _, _, _, _, _, _, _, rfl, _⟩ := h; rfl)) h) | (obtain ⟨rfl, _⟩ := h; rfl) | (obtain ⟨_, rfl, _⟩ := h; rfl) | (obtain ⟨_, _, rfl, _⟩ := h; rfl) | (obtain ⟨_, _, _, rfl, _⟩ := h; rfl) | (obtain ⟨_, _, _, _, rfl, _⟩ := h; rfl) | (obtain ⟨_, _, _, _, _, rfl, _⟩ := h; rfl) | (obtain ⟨_, _, _, _, _, _, rfl, _⟩ := h; rfl) | (obtain ⟨_, _, _, _, _, _, _, rfl, _⟩ := h; rfl) | (obtain ⟨_, _, _, _, _, _, _, _, rfl, _⟩ := h; rfl) | (obtain ⟨_, _, _, _, _, _, _, _, _, rfl, _⟩ := h; rfl) | (obtain ⟨_, _, _, _, _, _, _, _, _, _, rfl, _⟩ := h; rfl)) (fun cdv A outer s H vs Q E hr h => ⟨t_If_init d, ?_, pure_If_init T.t_Parts h⟩)
  exact (pss_cons (ps_fld (pv 0) (pv 1) rfl)
      (pss_cons (ps_fld (pv 0) (pe_callTy call_list_of (by rfl) T.b_list (by decide +kernel) (pa_cons (pv 2) pa_nil)) rfl)
      (pss_one (ps_fld (pv 0) (pe_callTy call_list_of (by rfl) T.b_list (by decide +kernel) (pa_cons (pv 3) pa_nil)) rfl))))
theorem ok_Either_init (T : Txt d mg z) : FnOk P w d.K mg base CX0 1 z.f_Either_init z.d_Either_init ["self", "parts", "others"] (sp_Either_init d) := by
  refine T.F_Either_init.ok sc_Either_init (fun vs H Q E h => by first | (exact lift_len (fun ds W Q h => by first | (obtain ⟨rfl, _⟩ := h; rfl) | (obtain ⟨_, rfl, _⟩ := h; rfl) | (obtain ⟨_, _, rfl, _⟩ := h; rfl) | (obtain ⟨_, _, _, rfl, _⟩ := h; rfl) | (obtain ⟨_, _, _, _, rfl, _⟩ := h; rfl) | (obtain ⟨_, _, _, _, _, rfl, _⟩ := h; rfl) | (obtain ⟨_, _, _, _, _, _, rfl, _⟩ := h; rfl) | (obtain ⟨_, _, _, _, _, _, _, rfl, _⟩ := h; rfl) | (obtain ⟨_, _, _, _, _, _, _, _, rfl, _⟩ := h; rfl) | (obtain ⟨_, _, _, _, _, _, _, _, _, rfl, _⟩ := h; rfl) | (obtain ⟨_, _, _, _, _, _, _, _, _, _, rfl, _⟩ := h; rfl)) h) | (obtain ⟨rfl, _⟩ := h; rfl) | (obtain ⟨_, rfl, _⟩ := h; rfl) | (obtain ⟨_, _, rfl, _⟩ := h; rfl) | (obtain ⟨_, _, _, rfl, _⟩ := h; rfl) | (obtain ⟨_, _, _, _, rfl, _⟩ := h; rfl) | (obtain ⟨_, _, _, _, _, rfl, _⟩ := h; rfl) | (obtain ⟨_, _, _, _, _, _, rfl, _⟩ := h; rfl) | (obtain ⟨_, _, _, _, _, _, _, rfl, _⟩ := h; rfl) | (obtain ⟨_, _, _, _, _, _, _, _, rfl, _⟩ := h; rfl) | (obtain ⟨_, _, _, _, _, _, _, _, _, rfl, _⟩ := h; rfl) | (obtain ⟨_, _, _, _, _, _, _, _, _, _, rfl, _⟩ := h; rfl)) (fun cdv A outer s H vs Q E hr h => ⟨t_Either_init d, ?_, pure_Either_init T.t_Parts h⟩)
  exact (pss_cons (ps_fld (pv 0) (pe_callTy call_list_of (by rfl) T.b_list (by decide +kernel) (pa_cons (pv 1) pa_nil)) rfl)
      (pss_one (ps_fld (pv 0) (pe_callTy call_list_of (by rfl) T.b_list (by decide +kernel) (pa_cons (pv 2) pa_nil)) rfl)))
theorem ok_Try_init (T : Txt d mg z) : FnOk P w d.K mg base CX0 1 z.f_Try_init z.d_Try_init ["self", "parts", "name", "slot", "others"] (sp_Try_init d) := by
  refine T.F_Try_init.ok sc_Try_init (fun vs H Q E h => by first | (exact lift_len (fun ds W Q h => by first | (obtain ⟨rfl, _⟩ := h; rfl) | (obtain ⟨_, rfl, _⟩ := h; rfl) | (obtain ⟨_, _, rfl, _⟩ := h; rfl) | (obtain ⟨_, _, _, rfl, _⟩ := h; rfl) | (obtain ⟨_, _, _, _, rfl, _⟩ := h; rfl) | (obtain ⟨_, _, _, _, _, rfl, _⟩ := h; rfl) | (obtain ⟨_, _, _, _, _, _, rfl, _⟩ := h; rfl) | (obtain ⟨_, _, _, _, _, _, _, rfl, _⟩ := h; rfl) | (obtain ⟨_, _, _, _, _, _, _, _, rfl, _⟩ := h; rfl) | (obtain ⟨_, _, _, _, _, _, _, _, _, rfl, _⟩ := h; rfl) | (obtain ⟨_, _, _, _, _, _, _, _, _, _, rfl, _⟩ := h; rfl)) h) | (obtain ⟨rfl, _⟩ := h; rfl) | (obtain ⟨_, rfl, _⟩ := h; rfl) | (obtain ⟨_, _, rfl, _⟩ := h; rfl) | (obtain ⟨_, _, _, rfl, _⟩ := h; rfl) | (obtain ⟨_, _, _, _, rfl, _⟩ := h; rfl) | (obtain ⟨_, _, _, _, _, rfl, _⟩ := h; rfl) | (obtain ⟨_, _, _, _, _, _, rfl, _⟩ := h; rfl) | (obtain ⟨_, _, _, _, _, _, _, rfl, _⟩ := h; rfl) | (obtain ⟨_, _, _, _, _, _, _, _, rfl, _⟩ := h; rfl) | (obtain ⟨_, _, _, _, _, _, _, _, _, rfl, _⟩ := h; rfl) | (obtain ⟨_, _, _, _, _, _, _, _, _, _, rfl, _⟩ := h; rfl)) (fun cdv A outer s H vs Q E hr h => ⟨t_Try_init d, ?_, pure_Try_init T.t_Parts h⟩)
  exact (pss_cons (ps_fld (pv 0) (pe_callTy call_list_of (by rfl) T.b_list (by decide +kernel) (pa_cons (pv 1) pa_nil)) rfl)
      (pss_cons (ps_fld (pv 0) (pv 2) rfl)
      (pss_cons (ps_fld (pv 0) (pv 3) rfl)
      (pss_one (ps_fld (pv 0) (pe_callTy call_list_of (by rfl) T.b_list (by decide +kernel) (pa_cons (pv 4) pa_nil)) rfl)))))
theorem ok_Throw_init (T : Txt d mg z) : FnOk P w d.K mg base CX0 1 z.f_Throw_init z.d_Throw_init ["self", "name", "slot"] (sp_Throw_init d) := by
  refine T.F_Throw_init.ok sc_Throw_init (fun vs H Q E h => by first | (exact lift_len (fun ds W Q h => by first | (obtain ⟨rfl, _⟩ := h; rfl) | (obtain ⟨_, rfl, _⟩ := h; rfl) | (obtain ⟨_, _, rfl, _⟩ := h; rfl) | (obtain ⟨_, _, _, rfl, _⟩ := h; rfl) | (obtain ⟨_, _, _, _, rfl, _⟩ := h; rfl) | (obtain ⟨_, _, _, _, _, rfl, _⟩ := h; rfl) | (obtain ⟨_, _, _, _, _, _, rfl, _⟩ := h; rfl) | (obtain ⟨_, _, _, _, _, _, _, rfl, _⟩ := h; rfl) | (obtain ⟨_, _, _, _, _, _, _, _, rfl, _⟩ := h; rfl) | (obtain ⟨_, _, _, _, _, _, _, _, _, rfl, _⟩ := h; rfl) | (obtain ⟨_, _, _, _, _, _, _, _, _, _, rfl, _⟩ := h; rfl)) h) | (obtain ⟨rfl, _⟩ := h; rfl) | (obtain ⟨_, rfl, _⟩ := h; rfl) | (obtain ⟨_, _, rfl, _⟩ := h; rfl) | (obtain ⟨_, _, _, rfl, _⟩ := h; rfl) | (obtain ⟨_, _, _, _, rfl, _⟩ := h; rfl) | (obtain ⟨_, _, _, _, _, rfl, _⟩ := h; rfl) | (obtain ⟨_, _, _, _, _, _, rfl, _⟩ := h; rfl) | (obtain ⟨_, _, _, _, _, _, _, rfl, _⟩ := h; rfl) | (obtain ⟨_, _, _, _, _, _, _, _, rfl, _⟩ := h; rfl) | (obtain ⟨_, _, _, _, _, _, _, _, _, rfl, _⟩ := h; rfl) | (obtain ⟨_, _, _, _, _, _, _, _, _, _, rfl, _⟩ := h; rfl)) (fun cdv A outer s H vs Q E hr h => ⟨t_Throw_init d, ?_, pure_Throw_init T.t_Parts h⟩)
  exact (pss_cons (ps_fld (pv 0) (pv 1) rfl)
      (pss_one (ps_fld (pv 0) (pv 2) rfl)))
theorem ok_plain_row (T : Txt d mg z) : FnOk P w d.K mg base CX0 1 z.f_plain_row z.d_plain_row ["part"] (sp_plain_row d) := by
  refine T.F_plain_row.ok sc_plain_row (fun vs H Q E h => by first | (exact lift_len (fun ds W Q h => by first | (obtain ⟨rfl, _⟩ := h; rfl) | (obtain ⟨_, rfl, _⟩ := h; rfl) | (obtain ⟨_, _, rfl, _⟩ := h; rfl) | (obtain ⟨_, _, _, rfl, _⟩ := h; rfl) | (obtain ⟨_, _, _, _, rfl, _⟩ := h; rfl) | (obtain ⟨_, _, _, _, _, rfl, _⟩ := h; rfl) | (obtain ⟨_, _, _, _, _, _, rfl, _⟩ := h; rfl) | (obtain ⟨_, _, _, _, _, _, _, rfl, _⟩ := h; rfl) | (obtain ⟨_, _, _, _, _, _, _, _, rfl, _⟩ := h; rfl) | (obtain ⟨_, _, _, _, _, _, _, _, _, rfl, _⟩ := h; rfl) | (obtain ⟨_, _, _, _, _, _, _, _, _, _, rfl, _⟩ := h; rfl)) h) | (obtain ⟨rfl, _⟩ := h; rfl) | (obtain ⟨_, rfl, _⟩ := h; rfl) | (obtain ⟨_, _, rfl, _⟩ := h; rfl) | (obtain ⟨_, _, _, rfl, _⟩ := h; rfl) | (obtain ⟨_, _, _, _, rfl, _⟩ := h; rfl) | (obtain ⟨_, _, _, _, _, rfl, _⟩ := h; rfl) | (obtain ⟨_, _, _, _, _, _, rfl, _⟩ := h; rfl) | (obtain ⟨_, _, _, _, _, _, _, rfl, _⟩ := h; rfl) | (obtain ⟨_, _, _, _, _, _, _, _, rfl, _⟩ := h; rfl) | (obtain ⟨_, _, _, _, _, _, _, _, _, rfl, _⟩ := h; rfl) | (obtain ⟨_, _, _, _, _, _, _, _, _, _, rfl, _⟩ := h; rfl)) (fun cdv A outer s H vs Q E hr h => ⟨t_plain_row d, ?_, pure_plain_row T.t_Parts h⟩)
  exact (pss_cons (ps_if (pt_val (pe_callB call_isi (by rfl) T.b_isinstance (by decide +kernel) (pa_cons (pv 0) (pa_cons (pe_glob rfl T.g_Let rfl) pa_nil)))) (pss_one (ps_ret (pe_tup (pa_cons pe_str (pa_cons (pe_fld (pv 0) rfl) (pa_cons (pe_fld (pv 0) rfl) pa_nil)))))) pss_nil)
      (pss_cons (ps_if (pt_val (pe_callB call_isi (by rfl) T.b_isinstance (by decide +kernel) (pa_cons (pv 0) (pa_cons (pe_glob rfl T.g_Reckon rfl) pa_nil)))) (pss_one (ps_ret (pe_tup (pa_cons (pe_fld (pv 0) rfl) (pa_cons (pe_fld (pv 0) rfl) (pa_cons (pe_fld (pv 0) rfl) (pa_cons (pe_fld (pv 0) rfl) pa_nil))))))) pss_nil)
      (pss_cons (ps_if (pt_val (pe_callB call_isi (by rfl) T.b_isinstance (by decide +kernel) (pa_cons (pv 0) (pa_cons (pe_glob rfl T.g_Take rfl) pa_nil)))) (pss_one (ps_ret (pe_tup (pa_cons pe_str (pa_cons (pe_fld (pv 0) rfl) (pa_cons (pe_fld (pv 0) rfl) pa_nil)))))) pss_nil)
      (pss_cons (ps_if (pt_val (pe_callB call_isi (by rfl) T.b_isinstance (by decide +kernel) (pa_cons (pv 0) (pa_cons (pe_glob rfl T.g_Put rfl) pa_nil)))) (pss_one (ps_ret (pe_tup (pa_cons pe_str (pa_cons (pe_fld (pv 0) rfl) (pa_cons (pe_fld (pv 0) rfl) pa_nil)))))) pss_nil)
      (pss_cons (ps_if (pt_val (pe_callB call_isi (by rfl) T.b_isinstance (by decide +kernel) (pa_cons (pv 0) (pa_cons (pe_glob rfl T.g_Throw rfl) pa_nil)))) (pss_one (ps_ret (pe_tup (pa_cons pe_str (pa_cons (pe_fld (pv 0) rfl) (pa_cons (pe_fld (pv 0) rfl) pa_nil)))))) pss_nil)
      (pss_one (ps_ret (pe_tup (pa_cons pe_str pa_nil)))))))))
theorem okG_two_sides (T : Txt d mg z) : (n : Nat) → FnOk P w d.K mg base CX0 (n + 1) z.f_two_sides z.d_two_sides ["head", "part", "first", "closing"] (spN_two_sides n d) ∧ FnOk P w d.K mg base CX0 (n + 1) z.f_part_rows z.d_part_rows ["part", "first"] (spN_part_rows n d) ∧ FnOk P w d.K mg base CX0 (n + 1) z.f_rows_from z.d_rows_from ["parts", "first"] (spN_rows_from n d)
  | 0 => ⟨fnok_no fun vs H Q E h => no_two_sides h, fnok_no fun vs H Q E h => no_part_rows h, fnok_no fun vs H Q E h => no_rows_from h⟩
  | n + 1 => by
    have G_plain_row := ok_plain_row (P := P) (w := w) (base := base) T
    have GG := okG_two_sides T n
    obtain ⟨GN_two_sides, GN_part_rows, GN_rows_from⟩ := GG
    refine ⟨?g0, ?g1, ?g2⟩
    case g0 =>
      refine FnOk.mono (j := n + 1 + 1) ?_ (by omega)
      refine T.F_two_sides.ok sc_two_sides (fun vs H Q E h => by first | (exact lift_len (fun ds W Q h => by first | (obtain ⟨rfl, _⟩ := h; rfl) | (obtain ⟨_, rfl, _⟩ := h; rfl) | (obtain ⟨_, _, rfl, _⟩ := h; rfl) | (obtain ⟨_, _, _, rfl, _⟩ := h; rfl) | (obtain ⟨_, _, _, _, rfl, _⟩ := h; rfl) | (obtain ⟨_, _, _, _, _, rfl, _⟩ := h; rfl) | (obtain ⟨_, _, _, _, _, _, rfl, _⟩ := h; rfl) | (obtain ⟨_, _, _, _, _, _, _, rfl, _⟩ := h; rfl) | (obtain ⟨_, _, _, _, _, _, _, _, rfl, _⟩ := h; rfl) | (obtain ⟨_, _, _, _, _, _, _, _, _, rfl, _⟩ := h; rfl) | (obtain ⟨_, _, _, _, _, _, _, _, _, _, rfl, _⟩ := h; rfl)) h) | (obtain ⟨rfl, _⟩ := h; rfl) | (obtain ⟨_, rfl, _⟩ := h; rfl) | (obtain ⟨_, _, rfl, _⟩ := h; rfl) | (obtain ⟨_, _, _, rfl, _⟩ := h; rfl) | (obtain ⟨_, _, _, _, rfl, _⟩ := h; rfl) | (obtain ⟨_, _, _, _, _, rfl, _⟩ := h; rfl) | (obtain ⟨_, _, _, _, _, _, rfl, _⟩ := h; rfl) | (obtain ⟨_, _, _, _, _, _, _, rfl, _⟩ := h; rfl) | (obtain ⟨_, _, _, _, _, _, _, _, rfl, _⟩ := h; rfl) | (obtain ⟨_, _, _, _, _, _, _, _, _, rfl, _⟩ := h; rfl) | (obtain ⟨_, _, _, _, _, _, _, _, _, _, rfl, _⟩ := h; rfl)) (fun cdv A outer s H vs Q E hr h => ⟨t_two_sides n d, ?_, pure_two_sides  h⟩)
      exact (pss_cons (ps_set (i := 4) sc_two_sides.nd rfl (Or.inl rfl) (pe_op op_catQ (pe_call GN_rows_from (hr.mono (by omega)) rfl T.m_rows_from T.F_rows_from.kp T.B_rows_from .nil pass0 (pa_cons (pe_fld (pv 1) rfl) (pa_cons (pe_op op_add (pv 2) pe_int) pa_nil))) (pv 3)))
        (pss_cons (ps_set (i := 5) sc_two_sides.nd rfl (Or.inl rfl) (pe_op op_add (pe_op op_add (pv 2) (pe_callB call_len_seq (by rfl) T.b_len (by decide +kernel) (pa_cons (pv 4) pa_nil))) pe_int))
        (pss_cons (ps_set (i := 6) sc_two_sides.nd rfl (Or.inl rfl) (pe_call GN_rows_from (hr.mono (by omega)) rfl T.m_rows_from T.F_rows_from.kp T.B_rows_from .nil pass0 (pa_cons (pe_fld (pv 1) rfl) (pa_cons (pv 5) pa_nil))))
        (pss_one (ps_ret (pe_op op_catQ (pe_op op_catQ (pe_op op_catQ (pe_lst (pa_cons (pe_op op_catT (pv 0) (pe_tup (pa_cons (pv 5) pa_nil))) pa_nil)) (pv 4)) (pe_lst (pa_cons (pe_tup (pa_cons pe_str (pa_cons (pe_op op_add (pv 5) (pe_callB call_len_seq (by rfl) T.b_len (by decide +kernel) (pa_cons (pv 6) pa_nil))) pa_nil))) pa_nil))) (pv 6)))))))
    case g1 =>
      refine FnOk.mono (j := n + 1 + 1) ?_ (by omega)
      refine T.F_part_rows.ok sc_part_rows (fun vs H Q E h => by first | (exact lift_len (fun ds W Q h => by first | (obtain ⟨rfl, _⟩ := h; rfl) | (obtain ⟨_, rfl, _⟩ := h; rfl) | (obtain ⟨_, _, rfl, _⟩ := h; rfl) | (obtain ⟨_, _, _, rfl, _⟩ := h; rfl) | (obtain ⟨_, _, _, _, rfl, _⟩ := h; rfl) | (obtain ⟨_, _, _, _, _, rfl, _⟩ := h; rfl) | (obtain ⟨_, _, _, _, _, _, rfl, _⟩ := h; rfl) | (obtain ⟨_, _, _, _, _, _, _, rfl, _⟩ := h; rfl) | (obtain ⟨_, _, _, _, _, _, _, _, rfl, _⟩ := h; rfl) | (obtain ⟨_, _, _, _, _, _, _, _, _, rfl, _⟩ := h; rfl) | (obtain ⟨_, _, _, _, _, _, _, _, _, _, rfl, _⟩ := h; rfl)) h) | (obtain ⟨rfl, _⟩ := h; rfl) | (obtain ⟨_, rfl, _⟩ := h; rfl) | (obtain ⟨_, _, rfl, _⟩ := h; rfl) | (obtain ⟨_, _, _, rfl, _⟩ := h; rfl) | (obtain ⟨_, _, _, _, rfl, _⟩ := h; rfl) | (obtain ⟨_, _, _, _, _, rfl, _⟩ := h; rfl) | (obtain ⟨_, _, _, _, _, _, rfl, _⟩ := h; rfl) | (obtain ⟨_, _, _, _, _, _, _, rfl, _⟩ := h; rfl) | (obtain ⟨_, _, _, _, _, _, _, _, rfl, _⟩ := h; rfl) | (obtain ⟨_, _, _, _, _, _, _, _, _, rfl, _⟩ := h; rfl) | (obtain ⟨_, _, _, _, _, _, _, _, _, _, rfl, _⟩ := h; rfl)) (fun cdv A outer s H vs Q E hr h => ⟨t_part_rows n d, ?_, pure_part_rows T.t_Parts h⟩)
      exact (pss_cons (ps_if (pt_val (pe_callB call_isi (by rfl) T.b_isinstance (by decide +kernel) (pa_cons (pv 0) (pa_cons (pe_glob rfl T.g_If rfl) pa_nil)))) (pss_one (ps_ret (pe_call GN_two_sides (hr.mono (by omega)) rfl T.m_two_sides T.F_two_sides.kp T.B_two_sides .nil pass0 (pa_cons (pe_tup (pa_cons pe_str (pa_cons (pe_fld (pv 0) rfl) pa_nil))) (pa_cons (pv 0) (pa_cons (pv 1) (pa_cons (pe_lst pa_nil) pa_nil))))))) pss_nil)
        (pss_cons (ps_if (pt_val (pe_callB call_isi (by rfl) T.b_isinstance (by decide +kernel) (pa_cons (pv 0) (pa_cons (pe_glob rfl T.g_Either rfl) pa_nil)))) (pss_one (ps_ret (pe_call GN_two_sides (hr.mono (by omega)) rfl T.m_two_sides T.F_two_sides.kp T.B_two_sides .nil pass0 (pa_cons (pe_tup (pa_cons pe_str pa_nil)) (pa_cons (pv 0) (pa_cons (pv 1) (pa_cons (pe_lst (pa_cons (pe_tup (pa_cons pe_str pa_nil)) pa_nil)) pa_nil))))))) pss_nil)
        (pss_cons (ps_if (pt_val (pe_callB call_isi (by rfl) T.b_isinstance (by decide +kernel) (pa_cons (pv 0) (pa_cons (pe_glob rfl T.g_Try rfl) pa_nil)))) (pss_one (ps_ret (pe_call GN_two_sides (hr.mono (by omega)) rfl T.m_two_sides T.F_two_sides.kp T.B_two_sides .nil pass0 (pa_cons (pe_tup (pa_cons pe_str (pa_cons (pe_fld (pv 0) rfl) (pa_cons (pe_fld (pv 0) rfl) pa_nil)))) (pa_cons (pv 0) (pa_cons (pv 1) (pa_cons (pe_lst (pa_cons (pe_tup (pa_cons pe_str pa_nil)) pa_nil)) pa_nil))))))) pss_nil)
        (pss_one (ps_ret (pe_lst (pa_cons (pe_call G_plain_row (hr.mono (by omega)) rfl T.m_plain_row T.F_plain_row.kp T.B_plain_row .nil pass0 (pa_cons (pv 0) pa_nil)) pa_nil)))))))
    case g2 =>
      refine FnOk.mono (j := n + 1 + 1) ?_ (by omega)
      refine T.F_rows_from.ok sc_rows_from (fun vs H Q E h => by first | (exact lift_len (fun ds W Q h => by first | (obtain ⟨rfl, _⟩ := h; rfl) | (obtain ⟨_, rfl, _⟩ := h; rfl) | (obtain ⟨_, _, rfl, _⟩ := h; rfl) | (obtain ⟨_, _, _, rfl, _⟩ := h; rfl) | (obtain ⟨_, _, _, _, rfl, _⟩ := h; rfl) | (obtain ⟨_, _, _, _, _, rfl, _⟩ := h; rfl) | (obtain ⟨_, _, _, _, _, _, rfl, _⟩ := h; rfl) | (obtain ⟨_, _, _, _, _, _, _, rfl, _⟩ := h; rfl) | (obtain ⟨_, _, _, _, _, _, _, _, rfl, _⟩ := h; rfl) | (obtain ⟨_, _, _, _, _, _, _, _, _, rfl, _⟩ := h; rfl) | (obtain ⟨_, _, _, _, _, _, _, _, _, _, rfl, _⟩ := h; rfl)) h) | (obtain ⟨rfl, _⟩ := h; rfl) | (obtain ⟨_, rfl, _⟩ := h; rfl) | (obtain ⟨_, _, rfl, _⟩ := h; rfl) | (obtain ⟨_, _, _, rfl, _⟩ := h; rfl) | (obtain ⟨_, _, _, _, rfl, _⟩ := h; rfl) | (obtain ⟨_, _, _, _, _, rfl, _⟩ := h; rfl) | (obtain ⟨_, _, _, _, _, _, rfl, _⟩ := h; rfl) | (obtain ⟨_, _, _, _, _, _, _, rfl, _⟩ := h; rfl) | (obtain ⟨_, _, _, _, _, _, _, _, rfl, _⟩ := h; rfl) | (obtain ⟨_, _, _, _, _, _, _, _, _, rfl, _⟩ := h; rfl) | (obtain ⟨_, _, _, _, _, _, _, _, _, _, rfl, _⟩ := h; rfl)) (fun cdv A outer s H vs Q E hr h => ⟨t_rows_from n d, ?_, pure_rows_from  h⟩)
      exact (pss_cons (ps_set (i := 2) sc_rows_from.nd rfl (Or.inl rfl) (pe_lst pa_nil))
        (pss_cons (ps_for PassesOwn.never rfl (pi_list (pv 0)) (pg_name (i := 3) sc_rows_from.nd rfl (Or.inl rfl)) (pss_one (ps_expr (pe_bm PySem.F.plainAttrs_list PySem.F.slot_list_extend PySem.F.type_list_extend mt_extend (pv 2) (pa_cons (pe_call GN_part_rows (hr.mono (by omega)) rfl T.m_part_rows T.F_part_rows.kp T.B_part_rows .nil pass0 (pa_cons (pv 3) (pa_cons (pe_op op_add (pv 1) (pe_callB call_len_seq (by rfl) T.b_len (by decide +kernel) (pa_cons (pv 2) pa_nil))) pa_nil))) pa_nil)))))
        (pss_one (ps_ret (pv 2)))))
theorem ok_two_sides (T : Txt d mg z) : FnOk P w d.K mg base CX0 (41) z.f_two_sides z.d_two_sides ["head", "part", "first", "closing"] (sp_two_sides d) := (okG_two_sides T 40).1
theorem ok_part_rows (T : Txt d mg z) : FnOk P w d.K mg base CX0 (41) z.f_part_rows z.d_part_rows ["part", "first"] (sp_part_rows d) := (okG_two_sides T 40).2.1
theorem ok_rows_from (T : Txt d mg z) : FnOk P w d.K mg base CX0 (41) z.f_rows_from z.d_rows_from ["parts", "first"] (sp_rows_from d) := (okG_two_sides T 40).2.2
theorem ok_rows_of (T : Txt d mg z) : FnOk P w d.K mg base CX0 42 z.f_rows_of z.d_rows_of ["deed"] (sp_rows_of d) := by
  have G_rows_from := ok_rows_from (P := P) (w := w) (base := base) T
  refine T.F_rows_of.ok sc_rows_of (fun vs H Q E h => by first | (exact lift_len (fun ds W Q h => by first | (obtain ⟨rfl, _⟩ := h; rfl) | (obtain ⟨_, rfl, _⟩ := h; rfl) | (obtain ⟨_, _, rfl, _⟩ := h; rfl) | (obtain ⟨_, _, _, rfl, _⟩ := h; rfl) | (obtain ⟨_, _, _, _, rfl, _⟩ := h; rfl) | (obtain ⟨_, _, _, _, _, rfl, _⟩ := h; rfl) | (obtain ⟨_, _, _, _, _, _, rfl, _⟩ := h; rfl) | (obtain ⟨_, _, _, _, _, _, _, rfl, _⟩ := h; rfl) | (obtain ⟨_, _, _, _, _, _, _, _, rfl, _⟩ := h; rfl) | (obtain ⟨_, _, _, _, _, _, _, _, _, rfl, _⟩ := h; rfl) | (obtain ⟨_, _, _, _, _, _, _, _, _, _, rfl, _⟩ := h; rfl)) h) | (obtain ⟨rfl, _⟩ := h; rfl) | (obtain ⟨_, rfl, _⟩ := h; rfl) | (obtain ⟨_, _, rfl, _⟩ := h; rfl) | (obtain ⟨_, _, _, rfl, _⟩ := h; rfl) | (obtain ⟨_, _, _, _, rfl, _⟩ := h; rfl) | (obtain ⟨_, _, _, _, _, rfl, _⟩ := h; rfl) | (obtain ⟨_, _, _, _, _, _, rfl, _⟩ := h; rfl) | (obtain ⟨_, _, _, _, _, _, _, rfl, _⟩ := h; rfl) | (obtain ⟨_, _, _, _, _, _, _, _, rfl, _⟩ := h; rfl) | (obtain ⟨_, _, _, _, _, _, _, _, _, rfl, _⟩ := h; rfl) | (obtain ⟨_, _, _, _, _, _, _, _, _, _, rfl, _⟩ := h; rfl)) (fun cdv A outer s H vs Q E hr h => ⟨t_rows_of d, ?_, pure_rows_of  h⟩)
  exact (pss_one (ps_ret (pe_op op_catQ (pe_call G_rows_from (hr.mono (by omega)) rfl T.m_rows_from T.F_rows_from.kp T.B_rows_from .nil pass0 (pa_cons (pv 0) (pa_cons pe_int pa_nil))) (pe_lst (pa_cons (pe_tup (pa_cons pe_str pa_nil)) pa_nil)))))
theorem ok_l_mixed (T : Txt d mg z) : FnOk P w d.K mg base CX0 1 z.f_l_mixed z.d_l_mixed ["_law_cell"] (sp_l_mixed d) := by
  refine T.F_l_mixed.ok sc_l_mixed (fun vs H Q E h => by first | (exact lift_len (fun ds W Q h => by first | (obtain ⟨rfl, _⟩ := h; rfl) | (obtain ⟨_, rfl, _⟩ := h; rfl) | (obtain ⟨_, _, rfl, _⟩ := h; rfl) | (obtain ⟨_, _, _, rfl, _⟩ := h; rfl) | (obtain ⟨_, _, _, _, rfl, _⟩ := h; rfl) | (obtain ⟨_, _, _, _, _, rfl, _⟩ := h; rfl) | (obtain ⟨_, _, _, _, _, _, rfl, _⟩ := h; rfl) | (obtain ⟨_, _, _, _, _, _, _, rfl, _⟩ := h; rfl) | (obtain ⟨_, _, _, _, _, _, _, _, rfl, _⟩ := h; rfl) | (obtain ⟨_, _, _, _, _, _, _, _, _, rfl, _⟩ := h; rfl) | (obtain ⟨_, _, _, _, _, _, _, _, _, _, rfl, _⟩ := h; rfl)) h) | (obtain ⟨rfl, _⟩ := h; rfl) | (obtain ⟨_, rfl, _⟩ := h; rfl) | (obtain ⟨_, _, rfl, _⟩ := h; rfl) | (obtain ⟨_, _, _, rfl, _⟩ := h; rfl) | (obtain ⟨_, _, _, _, rfl, _⟩ := h; rfl) | (obtain ⟨_, _, _, _, _, rfl, _⟩ := h; rfl) | (obtain ⟨_, _, _, _, _, _, rfl, _⟩ := h; rfl) | (obtain ⟨_, _, _, _, _, _, _, rfl, _⟩ := h; rfl) | (obtain ⟨_, _, _, _, _, _, _, _, rfl, _⟩ := h; rfl) | (obtain ⟨_, _, _, _, _, _, _, _, _, rfl, _⟩ := h; rfl) | (obtain ⟨_, _, _, _, _, _, _, _, _, _, rfl, _⟩ := h; rfl)) (fun cdv A outer s H vs Q E hr h => ⟨t_l_mixed d, ?_, pure_l_mixed  h⟩)
  exact (pss_one (ps_ret (pe_op op_mod (pe_op op_mul (pv 0) pe_int) pe_int)))
theorem ok_l_wide (T : Txt d mg z) : FnOk P w d.K mg base CX0 1 z.f_l_wide z.d_l_wide ["_law_cell"] (sp_l_wide d) := by
  refine T.F_l_wide.ok sc_l_wide (fun vs H Q E h => by first | (exact lift_len (fun ds W Q h => by first | (obtain ⟨rfl, _⟩ := h; rfl) | (obtain ⟨_, rfl, _⟩ := h; rfl) | (obtain ⟨_, _, rfl, _⟩ := h; rfl) | (obtain ⟨_, _, _, rfl, _⟩ := h; rfl) | (obtain ⟨_, _, _, _, rfl, _⟩ := h; rfl) | (obtain ⟨_, _, _, _, _, rfl, _⟩ := h; rfl) | (obtain ⟨_, _, _, _, _, _, rfl, _⟩ := h; rfl) | (obtain ⟨_, _, _, _, _, _, _, rfl, _⟩ := h; rfl) | (obtain ⟨_, _, _, _, _, _, _, _, rfl, _⟩ := h; rfl) | (obtain ⟨_, _, _, _, _, _, _, _, _, rfl, _⟩ := h; rfl) | (obtain ⟨_, _, _, _, _, _, _, _, _, _, rfl, _⟩ := h; rfl)) h) | (obtain ⟨rfl, _⟩ := h; rfl) | (obtain ⟨_, rfl, _⟩ := h; rfl) | (obtain ⟨_, _, rfl, _⟩ := h; rfl) | (obtain ⟨_, _, _, rfl, _⟩ := h; rfl) | (obtain ⟨_, _, _, _, rfl, _⟩ := h; rfl) | (obtain ⟨_, _, _, _, _, rfl, _⟩ := h; rfl) | (obtain ⟨_, _, _, _, _, _, rfl, _⟩ := h; rfl) | (obtain ⟨_, _, _, _, _, _, _, rfl, _⟩ := h; rfl) | (obtain ⟨_, _, _, _, _, _, _, _, rfl, _⟩ := h; rfl) | (obtain ⟨_, _, _, _, _, _, _, _, _, rfl, _⟩ := h; rfl) | (obtain ⟨_, _, _, _, _, _, _, _, _, _, rfl, _⟩ := h; rfl)) (fun cdv A outer s H vs Q E hr h => ⟨t_l_wide d, ?_, pure_l_wide  h⟩)
  exact (pss_one (ps_ret (pe_op op_mod (pe_op op_mul (pv 0) pe_int) (pe_op op_pow pe_int pe_int))))
theorem ok_l_names (T : Txt d mg z) : FnOk P w d.K mg base CX0 2 z.f_l_names z.d_l_names ["_law_cell"] (sp_l_names d) := by
  have G_l_mixed := ok_l_mixed (P := P) (w := w) (base := base) T
  refine T.F_l_names.ok sc_l_names (fun vs H Q E h => by first | (exact lift_len (fun ds W Q h => by first | (obtain ⟨rfl, _⟩ := h; rfl) | (obtain ⟨_, rfl, _⟩ := h; rfl) | (obtain ⟨_, _, rfl, _⟩ := h; rfl) | (obtain ⟨_, _, _, rfl, _⟩ := h; rfl) | (obtain ⟨_, _, _, _, rfl, _⟩ := h; rfl) | (obtain ⟨_, _, _, _, _, rfl, _⟩ := h; rfl) | (obtain ⟨_, _, _, _, _, _, rfl, _⟩ := h; rfl) | (obtain ⟨_, _, _, _, _, _, _, rfl, _⟩ := h; rfl) | (obtain ⟨_, _, _, _, _, _, _, _, rfl, _⟩ := h; rfl) | (obtain ⟨_, _, _, _, _, _, _, _, _, rfl, _⟩ := h; rfl) | (obtain ⟨_, _, _, _, _, _, _, _, _, _, rfl, _⟩ := h; rfl)) h) | (obtain ⟨rfl, _⟩ := h; rfl) | (obtain ⟨_, rfl, _⟩ := h; rfl) | (obtain ⟨_, _, rfl, _⟩ := h; rfl) | (obtain ⟨_, _, _, rfl, _⟩ := h; rfl) | (obtain ⟨_, _, _, _, rfl, _⟩ := h; rfl) | (obtain ⟨_, _, _, _, _, rfl, _⟩ := h; rfl) | (obtain ⟨_, _, _, _, _, _, rfl, _⟩ := h; rfl) | (obtain ⟨_, _, _, _, _, _, _, rfl, _⟩ := h; rfl) | (obtain ⟨_, _, _, _, _, _, _, _, rfl, _⟩ := h; rfl) | (obtain ⟨_, _, _, _, _, _, _, _, _, rfl, _⟩ := h; rfl) | (obtain ⟨_, _, _, _, _, _, _, _, _, _, rfl, _⟩ := h; rfl)) (fun cdv A outer s H vs Q E hr h => ⟨t_l_names d, ?_, pure_l_names  h⟩)
  exact (pss_cons (ps_set (i := 1) sc_l_names.nd rfl (Or.inl rfl) pe_str)
      (pss_cons (ps_set (i := 2) sc_l_names.nd rfl (Or.inl rfl) (pe_call G_l_mixed (hr.mono (by omega)) rfl T.m_l_mixed T.F_l_mixed.kp T.B_l_mixed .nil pass0 (pa_cons (pv 0) pa_nil)))
      (pss_cons (ps_set (i := 3) sc_l_names.nd rfl (Or.inl rfl) (pe_op op_add pe_int (pe_op op_mod (pv 2) pe_int)))
      (pss_cons (ps_set (i := 4) sc_l_names.nd rfl (Or.inl rfl) (pe_op op_mod (pe_op op_fdiv (pv 2) pe_int) (pv 3)))
      (pss_cons (ps_set (i := 5) sc_l_names.nd rfl (Or.inl rfl) (pe_lst pa_nil))
      (pss_cons (ps_for PassesOwn.never rfl (pi_range1 rfl T.b_range (pa_cons pe_int pa_nil)) (pg_name (i := 6) sc_l_names.nd rfl (Or.inl rfl)) (pss_cons (ps_set (i := 7) sc_l_names.nd rfl (Or.inl rfl) pe_str)
      (pss_cons (ps_for PassesOwn.never rfl (pi_range1 rfl T.b_range (pa_cons (pv 3) pa_nil)) (pg_name (i := 8) sc_l_names.nd rfl (Or.inl rfl)) (pss_cons (ps_set (i := 9) sc_l_names.nd rfl (Or.inl rfl) (pe_op op_add (pe_op op_fdiv (pe_op op_fdiv (pv 2) pe_int) (pe_op op_add (pe_op op_mul (pv 8) (pv 8)) pe_int)) (pv 8)))
      (pss_cons (ps_if (pt_cmpR op_eq (pv 8) (pv 4) (nomark _)) (pss_one (ps_set (i := 9) sc_l_names.nd rfl (Or.inl rfl) (pe_op op_add (pv 9) (pv 6)))) pss_nil)
      (pss_one (ps_set (i := 7) sc_l_names.nd rfl (Or.inl rfl) (pe_op op_add_str (pv 7) (pe_ix ix_str (pv 1) (pe_op op_mod (pv 9) pe_int) (fun _ _ => rfl))))))))
      (pss_one (ps_expr (pe_bm PySem.F.plainAttrs_list PySem.F.slot_list_append PySem.F.type_list_append mt_append (pv 5) (pa_cons (pv 7) pa_nil)))))))
      (pss_one (ps_ret (pv 5)))))))))
theorem ok_l_plain (T : Txt d mg z) : FnOk P w d.K mg base CX0 2 z.f_l_plain z.d_l_plain ["_law_mixed_here", "_law_cell"] (sp_l_plain d) := by
  have G_l_wide := ok_l_wide (P := P) (w := w) (base := base) T
  refine T.F_l_plain.ok sc_l_plain (fun vs H Q E h => by first | (exact lift_len (fun ds W Q h => by first | (obtain ⟨rfl, _⟩ := h; rfl) | (obtain ⟨_, rfl, _⟩ := h; rfl) | (obtain ⟨_, _, rfl, _⟩ := h; rfl) | (obtain ⟨_, _, _, rfl, _⟩ := h; rfl) | (obtain ⟨_, _, _, _, rfl, _⟩ := h; rfl) | (obtain ⟨_, _, _, _, _, rfl, _⟩ := h; rfl) | (obtain ⟨_, _, _, _, _, _, rfl, _⟩ := h; rfl) | (obtain ⟨_, _, _, _, _, _, _, rfl, _⟩ := h; rfl) | (obtain ⟨_, _, _, _, _, _, _, _, rfl, _⟩ := h; rfl) | (obtain ⟨_, _, _, _, _, _, _, _, _, rfl, _⟩ := h; rfl) | (obtain ⟨_, _, _, _, _, _, _, _, _, _, rfl, _⟩ := h; rfl)) h) | (obtain ⟨rfl, _⟩ := h; rfl) | (obtain ⟨_, rfl, _⟩ := h; rfl) | (obtain ⟨_, _, rfl, _⟩ := h; rfl) | (obtain ⟨_, _, _, rfl, _⟩ := h; rfl) | (obtain ⟨_, _, _, _, rfl, _⟩ := h; rfl) | (obtain ⟨_, _, _, _, _, rfl, _⟩ := h; rfl) | (obtain ⟨_, _, _, _, _, _, rfl, _⟩ := h; rfl) | (obtain ⟨_, _, _, _, _, _, _, rfl, _⟩ := h; rfl) | (obtain ⟨_, _, _, _, _, _, _, _, rfl, _⟩ := h; rfl) | (obtain ⟨_, _, _, _, _, _, _, _, _, rfl, _⟩ := h; rfl) | (obtain ⟨_, _, _, _, _, _, _, _, _, _, rfl, _⟩ := h; rfl)) (fun cdv A outer s H vs Q E hr h => ⟨t_l_plain d, ?_, pure_l_plain  h⟩)
  exact (pss_cons (ps_set (i := 2) sc_l_plain.nd rfl (Or.inl rfl) (pe_slice sl_str pe_str po_none (po_some (pe_ix ix_list (pe_lst (pa_cons pe_int (pa_cons pe_int (pa_cons pe_int pa_nil)))) (pe_op op_mod (pv 0) pe_int) (fun _ _ => rfl)))))
      (pss_cons (ps_set (i := 3) sc_l_plain.nd rfl (Or.inl rfl) (pe_callB call_len_str (by rfl) T.b_len (by decide +kernel) (pa_cons (pv 2) pa_nil)))
      (pss_cons (ps_set (i := 4) sc_l_plain.nd rfl (Or.inl rfl) (pe_op op_fdiv (pv 0) pe_int))
      (pss_cons (ps_set (i := 5) sc_l_plain.nd rfl (Or.inl rfl) (pe_ix ix_str (pv 2) (pe_op op_mod (pv 4) (pv 3)) (fun _ _ => rfl)))
      (pss_cons (ps_set (i := 6) sc_l_plain.nd rfl (Or.inl rfl) (pe_ix ix_str (pv 2) (pe_op op_mod (pe_op op_fdiv (pv 4) (pv 3)) (pv 3)) (fun _ _ => rfl)))
      (pss_cons (ps_set (i := 7) sc_l_plain.nd rfl (Or.inl rfl) (pe_ix ix_str (pv 2) (pe_op op_mod (pe_op op_fdiv (pe_op op_fdiv (pv 4) (pv 3)) (pv 3)) (pv 3)) (fun _ _ => rfl)))
      (pss_cons (ps_set (i := 8) sc_l_plain.nd rfl (Or.inl rfl) (pe_op op_mod (pe_op op_fdiv (pv 0) pe_int) pe_int))
      (pss_cons (ps_if (pt_cmpR op_eq (pv 8) pe_int (nomark _)) (pss_one (ps_ret (pe_lst (pa_cons (pe_tup (pa_cons pe_str (pa_cons (pv 5) (pa_cons (pe_call G_l_wide (hr.mono (by omega)) rfl T.m_l_wide T.F_l_wide.kp T.B_l_wide .nil pass0 (pa_cons (pv 1) pa_nil)) pa_nil)))) pa_nil)))) pss_nil)
      (pss_cons (ps_if (pt_cmpR o_lt (pv 8) pe_int (nomark _)) (pss_one (ps_ret (pe_lst (pa_cons (pe_tup (pa_cons pe_str (pa_cons (pv 5) (pa_cons (pe_op op_mod (pe_op op_fdiv (pv 4) pe_int) pe_int) pa_nil)))) pa_nil)))) pss_nil)
      (pss_cons (ps_if (pt_cmpR o_lt (pv 8) pe_int (nomark _)) (pss_cons (ps_set (i := 9) sc_l_plain.nd rfl (Or.inl rfl) (pe_ix ix_list (pe_lst (pa_cons pe_str (pa_cons pe_str (pa_cons pe_str (pa_cons pe_str (pa_cons pe_str pa_nil)))))) (pe_op op_mod (pe_op op_fdiv (pv 4) pe_int) pe_int) (fun _ _ => rfl)))
      (pss_one (ps_ret (pe_lst (pa_cons (pe_tup (pa_cons pe_str (pa_cons (pv 9) (pa_cons (pv 5) (pa_cons (pv 6) (pa_cons (pv 7) pa_nil)))))) pa_nil))))) pss_nil)
      (pss_cons (ps_if (pt_cmpR o_lt (pv 8) pe_int (nomark _)) (pss_one (ps_ret (pe_lst (pa_cons (pe_tup (pa_cons pe_str (pa_cons (pv 5) (pa_cons (pv 6) pa_nil)))) pa_nil)))) pss_nil)
      (pss_cons (ps_if (pt_cmpR o_lt (pv 8) pe_int (nomark _)) (pss_one (ps_ret (pe_lst (pa_cons (pe_tup (pa_cons pe_str (pa_cons (pv 5) (pa_cons (pv 6) pa_nil)))) pa_nil)))) pss_nil)
      (pss_cons (ps_set (i := 9) sc_l_plain.nd rfl (Or.inl rfl) (pe_ix ix_list (pe_lst (pa_cons pe_str (pa_cons pe_str (pa_cons pe_str pa_nil)))) (pe_op op_mod (pe_op op_fdiv (pv 4) pe_int) pe_int) (fun _ _ => rfl)))
      (pss_cons (ps_set (i := 10) sc_l_plain.nd rfl (Or.inl rfl) (pe_lst (pa_cons (pe_tup (pa_cons pe_str (pa_cons (pv 5) (pa_cons (pe_op op_mod (pe_op op_fdiv (pv 4) pe_int) pe_int) pa_nil)))) (pa_cons (pe_tup (pa_cons pe_str (pa_cons (pv 6) (pa_cons (pv 5) pa_nil)))) pa_nil))))
      (pss_one (ps_ret (pe_op op_catQ (pv 10) (pe_lst (pa_cons (pe_tup (pa_cons pe_str (pa_cons (pv 9) (pa_cons (pv 6) (pa_cons (pv 6) (pa_cons (pv 7) pa_nil)))))) (pa_cons (pe_tup (pa_cons pe_str (pa_cons (pv 5) (pa_cons (pv 6) pa_nil)))) pa_nil))))))))))))))))))))
theorem ok_l_sided (T : Txt d mg z) : FnOk P w d.K mg base CX0 1 z.f_l_sided z.d_l_sided ["_law_mixed_here", "_law_one", "_law_other", "_law_names_here"] (sp_l_sided d) := by
  refine T.F_l_sided.ok sc_l_sided (fun vs H Q E h => by first | (exact lift_len (fun ds W Q h => by first | (obtain ⟨rfl, _⟩ := h; rfl) | (obtain ⟨_, rfl, _⟩ := h; rfl) | (obtain ⟨_, _, rfl, _⟩ := h; rfl) | (obtain ⟨_, _, _, rfl, _⟩ := h; rfl) | (obtain ⟨_, _, _, _, rfl, _⟩ := h; rfl) | (obtain ⟨_, _, _, _, _, rfl, _⟩ := h; rfl) | (obtain ⟨_, _, _, _, _, _, rfl, _⟩ := h; rfl) | (obtain ⟨_, _, _, _, _, _, _, rfl, _⟩ := h; rfl) | (obtain ⟨_, _, _, _, _, _, _, _, rfl, _⟩ := h; rfl) | (obtain ⟨_, _, _, _, _, _, _, _, _, rfl, _⟩ := h; rfl) | (obtain ⟨_, _, _, _, _, _, _, _, _, _, rfl, _⟩ := h; rfl)) h) | (obtain ⟨rfl, _⟩ := h; rfl) | (obtain ⟨_, rfl, _⟩ := h; rfl) | (obtain ⟨_, _, rfl, _⟩ := h; rfl) | (obtain ⟨_, _, _, rfl, _⟩ := h; rfl) | (obtain ⟨_, _, _, _, rfl, _⟩ := h; rfl) | (obtain ⟨_, _, _, _, _, rfl, _⟩ := h; rfl) | (obtain ⟨_, _, _, _, _, _, rfl, _⟩ := h; rfl) | (obtain ⟨_, _, _, _, _, _, _, rfl, _⟩ := h; rfl) | (obtain ⟨_, _, _, _, _, _, _, _, rfl, _⟩ := h; rfl) | (obtain ⟨_, _, _, _, _, _, _, _, _, rfl, _⟩ := h; rfl) | (obtain ⟨_, _, _, _, _, _, _, _, _, _, rfl, _⟩ := h; rfl)) (fun cdv A outer s H vs Q E hr h => ⟨t_l_sided d, ?_, pure_l_sided  h⟩)
  exact (pss_cons (ps_set (i := 4) sc_l_sided.nd rfl (Or.inl rfl) pe_str)
      (pss_cons (ps_set (i := 5) sc_l_sided.nd rfl (Or.inl rfl) (pe_ix ix_str (pv 4) (pe_op op_mod (pe_op op_fdiv (pv 0) pe_int) pe_int) (fun _ _ => rfl)))
      (pss_cons (ps_set (i := 6) sc_l_sided.nd rfl (Or.inl rfl) (pe_op op_mod (pv 0) pe_int))
      (pss_cons (ps_if (pt_cmpR op_eq (pv 6) pe_int (nomark _)) (pss_one (ps_ret (pe_tup (pa_cons pe_str (pa_cons (pv 5) (pa_cons (pv 1) (pa_cons (pv 2) pa_nil))))))) pss_nil)
      (pss_cons (ps_set (i := 7) sc_l_sided.nd rfl (Or.inl rfl) (pe_tup (pa_cons pe_str pa_nil)))
      (pss_cons (ps_if (pt_cmpR op_eq (pv 6) pe_int (nomark _)) (pss_one (ps_set (i := 7) sc_l_sided.nd rfl (Or.inl rfl) (pe_tup (pa_cons pe_str (pa_cons (pe_ix ix_list (pv 3) (pe_op op_mod (pe_op op_fdiv (pv 0) pe_int) pe_int) (fun _ _ => rfl)) (pa_cons (pv 5) pa_nil)))))) pss_nil)
      (pss_cons (ps_if (pt_cmpR op_eq (pe_op op_mod (pe_op op_fdiv (pv 0) pe_int) pe_int) pe_int (nomark _)) (pss_one (ps_set (i := 1) sc_l_sided.nd rfl (Or.inl rfl) (pe_op op_catQ (pv 1) (pe_lst (pa_cons (pv 7) pa_nil))))) pss_nil)
      (pss_cons (ps_if (pt_cmpR op_eq (pe_op op_mod (pe_op op_fdiv (pv 0) pe_int) pe_int) pe_int (nomark _)) (pss_one (ps_set (i := 1) sc_l_sided.nd rfl (Or.inl rfl) (pe_op op_catQ (pv 1) (pe_lst (pa_cons (pe_tup (pa_cons pe_str (pa_cons (pv 5) (pa_cons (pe_lst (pa_cons (pv 7) pa_nil)) (pa_cons (pe_lst pa_nil) pa_nil))))) pa_nil))))) pss_nil)
      (pss_cons (ps_if (pt_cmpR op_eq (pv 6) pe_int (nomark _)) (pss_one (ps_ret (pe_tup (pa_cons pe_str (pa_cons (pv 1) (pa_cons (pv 2) pa_nil)))))) pss_nil)
      (pss_one (ps_ret (pe_tup (pa_cons pe_str (pa_cons (pv 1) (pa_cons (pe_ix ix_list (pv 3) (pe_op op_mod (pe_op op_fdiv (pv 0) pe_int) pe_int) (fun _ _ => rfl)) (pa_cons (pe_ix ix_str (pv 4) (pe_op op_mod (pe_op op_fdiv (pv 0) pe_int) pe_int) (fun _ _ => rfl)) (pa_cons (pv 2) pa_nil)))))))))))))))))
theorem okG_l_tree (T : Txt d mg z) : (n : Nat) → FnOk P w d.K mg base CX0 (n + 3) z.f_l_tree z.d_l_tree ["_law_cells", "_law_depth", "_law_names_here"] (spN_l_tree n d)
  | 0 => fnok_no fun vs H Q E h => no_l_tree h
  | n + 1 => by
    have G_l_mixed := ok_l_mixed (P := P) (w := w) (base := base) T
    have G_l_plain := ok_l_plain (P := P) (w := w) (base := base) T
    have G_l_sided := ok_l_sided (P := P) (w := w) (base := base) T
    have GG := okG_l_tree T n
    have GN_l_tree := GG
    refine FnOk.mono (j := n + 3 + 1) ?_ (by omega)
    refine T.F_l_tree.ok sc_l_tree (fun vs H Q E h => by first | (exact lift_len (fun ds W Q h => by first | (obtain ⟨rfl, _⟩ := h; rfl) | (obtain ⟨_, rfl, _⟩ := h; rfl) | (obtain ⟨_, _, rfl, _⟩ := h; rfl) | (obtain ⟨_, _, _, rfl, _⟩ := h; rfl) | (obtain ⟨_, _, _, _, rfl, _⟩ := h; rfl) | (obtain ⟨_, _, _, _, _, rfl, _⟩ := h; rfl) | (obtain ⟨_, _, _, _, _, _, rfl, _⟩ := h; rfl) | (obtain ⟨_, _, _, _, _, _, _, rfl, _⟩ := h; rfl) | (obtain ⟨_, _, _, _, _, _, _, _, rfl, _⟩ := h; rfl) | (obtain ⟨_, _, _, _, _, _, _, _, _, rfl, _⟩ := h; rfl) | (obtain ⟨_, _, _, _, _, _, _, _, _, _, rfl, _⟩ := h; rfl)) h) | (obtain ⟨rfl, _⟩ := h; rfl) | (obtain ⟨_, rfl, _⟩ := h; rfl) | (obtain ⟨_, _, rfl, _⟩ := h; rfl) | (obtain ⟨_, _, _, rfl, _⟩ := h; rfl) | (obtain ⟨_, _, _, _, rfl, _⟩ := h; rfl) | (obtain ⟨_, _, _, _, _, rfl, _⟩ := h; rfl) | (obtain ⟨_, _, _, _, _, _, rfl, _⟩ := h; rfl) | (obtain ⟨_, _, _, _, _, _, _, rfl, _⟩ := h; rfl) | (obtain ⟨_, _, _, _, _, _, _, _, rfl, _⟩ := h; rfl) | (obtain ⟨_, _, _, _, _, _, _, _, _, rfl, _⟩ := h; rfl) | (obtain ⟨_, _, _, _, _, _, _, _, _, _, rfl, _⟩ := h; rfl)) (fun cdv A outer s H vs Q E hr h => ⟨t_l_tree n d, ?_, pure_l_tree  h⟩)
    exact (pss_cons (ps_set (i := 3) sc_l_tree.nd rfl (Or.inl rfl) (pe_lst pa_nil))
        (pss_cons (ps_set (i := 4) sc_l_tree.nd rfl (Or.inl rfl) pe_int)
        (pss_cons (ps_while PassesOwn.never (pt_cmpR o_lt (pv 4) (pe_callB call_len_seq (by rfl) T.b_len (by decide +kernel) (pa_cons (pv 0) pa_nil)) (nomark _)) (pss_cons (ps_set (i := 5) sc_l_tree.nd rfl (Or.inl rfl) (pe_ix ix_list (pv 0) (pv 4) (fun _ _ => rfl)))
        (pss_cons (ps_set (i := 6) sc_l_tree.nd rfl (Or.inl rfl) (pe_call G_l_mixed (hr.mono (by omega)) rfl T.m_l_mixed T.F_l_mixed.kp T.B_l_mixed .nil pass0 (pa_cons (pv 5) pa_nil)))
        (pss_cons (ps_set (i := 4) sc_l_tree.nd rfl (Or.inl rfl) (pe_op op_add (pv 4) pe_int))
        (pss_one (ps_if (PW.pt (pw_or (pt_cmpR op_eq (pv 1) pe_int (nomark _)) (pw_or1 (pt_cmpR o_lt (pe_op op_mod (pv 6) pe_int) pe_int (nomark _))))) (pss_one (ps_set (i := 3) sc_l_tree.nd rfl (Or.inl rfl) (pe_op op_catQ (pv 3) (pe_call G_l_plain (hr.mono (by omega)) rfl T.m_l_plain T.F_l_plain.kp T.B_l_plain .nil pass0 (pa_cons (pe_op op_fdiv (pv 6) pe_int) (pa_cons (pv 5) pa_nil)))))) (pss_one (ps_if (pt_cmpR op_eq (pe_op op_mod (pv 6) pe_int) pe_int (nomark _)) (pss_cons (ps_set (i := 7) sc_l_tree.nd rfl (Or.inl rfl) (pe_lst (pa_cons (pe_tup (pa_cons pe_str pa_nil)) (pa_cons (pe_tup (pa_cons pe_str (pa_cons (pe_ix ix_list (pv 2) (pe_op op_mod (pe_op op_fdiv (pv 6) pe_int) pe_int) (fun _ _ => rfl)) (pa_cons (pe_ix ix_str pe_str (pe_op op_mod (pe_op op_fdiv (pv 6) pe_int) pe_int) (fun _ _ => rfl)) pa_nil)))) pa_nil))))
        (pss_one (ps_expr (pe_bm PySem.F.plainAttrs_list PySem.F.slot_list_append PySem.F.type_list_append mt_append (pv 3) (pa_cons (pe_ix ix_list (pv 7) (pe_op op_fdiv (pe_op op_mod (pe_op op_fdiv (pv 6) pe_int) pe_int) pe_int) (fun _ _ => rfl)) pa_nil))))) (pss_cons (ps_set (i := 8) sc_l_tree.nd rfl (Or.inl rfl) (pe_op op_mod (pe_op op_fdiv (pv 6) pe_int) pe_int))
        (pss_cons (ps_set (i := 9) sc_l_tree.nd rfl (Or.inl rfl) (pe_op op_mod (pe_op op_fdiv (pv 6) pe_int) pe_int))
        (pss_cons (ps_set (i := 10) sc_l_tree.nd rfl (Or.inl rfl) (pe_call GN_l_tree (hr.mono (by omega)) rfl T.m_l_tree T.F_l_tree.kp T.B_l_tree .nil pass0 (pa_cons (pe_slice sl_list (pv 0) (po_some (pv 4)) (po_some (pe_op op_add (pv 4) (pv 8)))) (pa_cons (pe_op op_sub (pv 1) pe_int) (pa_cons (pv 2) pa_nil)))))
        (pss_cons (ps_set (i := 11) sc_l_tree.nd rfl (Or.inl rfl) (pe_call GN_l_tree (hr.mono (by omega)) rfl T.m_l_tree T.F_l_tree.kp T.B_l_tree .nil pass0 (pa_cons (pe_slice sl_list (pv 0) (po_some (pe_op op_add (pv 4) (pv 8))) (po_some (pe_op op_add (pe_op op_add (pv 4) (pv 8)) (pv 9)))) (pa_cons (pe_op op_sub (pv 1) pe_int) (pa_cons (pv 2) pa_nil)))))
        (pss_cons (ps_set (i := 4) sc_l_tree.nd rfl (Or.inl rfl) (pe_op op_add (pe_op op_add (pv 4) (pv 8)) (pv 9)))
        (pss_one (ps_expr (pe_bm PySem.F.plainAttrs_list PySem.F.slot_list_append PySem.F.type_list_append mt_append (pv 3) (pa_cons (pe_call G_l_sided (hr.mono (by omega)) rfl T.m_l_sided T.F_l_sided.kp T.B_l_sided .nil pass0 (pa_cons (pe_op op_fdiv (pv 6) pe_int) (pa_cons (pv 10) (pa_cons (pv 11) (pa_cons (pv 2) pa_nil))))) pa_nil)))))))))))))))))
        (pss_one (ps_ret (pv 3))))))
theorem ok_l_tree (T : Txt d mg z) : FnOk P w d.K mg base CX0 (8) z.f_l_tree z.d_l_tree ["_law_cells", "_law_depth", "_law_names_here"] (sp_l_tree d) := okG_l_tree T 5
theorem okG_l_made (T : Txt d mg z) : (n : Nat) → FnOk P w d.K mg base CX0 (n + 3) z.f_l_made z.d_l_made ["_law_tree_here"] (spN_l_made n d)
  | 0 => fnok_no fun vs H Q E h => no_l_made h
  | n + 1 => by
    have G_Let_init := ok_Let_init (P := P) (w := w) (base := base) T
    have G_Reckon_init := ok_Reckon_init (P := P) (w := w) (base := base) T
    have G_Take_init := ok_Take_init (P := P) (w := w) (base := base) T
    have G_Put_init := ok_Put_init (P := P) (w := w) (base := base) T
    have G_If_init := ok_If_init (P := P) (w := w) (base := base) T
    have G_Either_init := ok_Either_init (P := P) (w := w) (base := base) T
    have G_Try_init := ok_Try_init (P := P) (w := w) (base := base) T
    have G_Throw_init := ok_Throw_init (P := P) (w := w) (base := base) T
    have GG := okG_l_made T n
    have GN_l_made := GG
    refine FnOk.mono (j := n + 3 + 1) ?_ (by omega)
    refine T.F_l_made.ok sc_l_made (fun vs H Q E h => by first | (exact lift_len (fun ds W Q h => by first | (obtain ⟨rfl, _⟩ := h; rfl) | (obtain ⟨_, rfl, _⟩ := h; rfl) | (obtain ⟨_, _, rfl, _⟩ := h; rfl) | (obtain ⟨_, _, _, rfl, _⟩ := h; rfl) | (obtain ⟨_, _, _, _, rfl, _⟩ := h; rfl) | (obtain ⟨_, _, _, _, _, rfl, _⟩ := h; rfl) | (obtain ⟨_, _, _, _, _, _, rfl, _⟩ := h; rfl) | (obtain ⟨_, _, _, _, _, _, _, rfl, _⟩ := h; rfl) | (obtain ⟨_, _, _, _, _, _, _, _, rfl, _⟩ := h; rfl) | (obtain ⟨_, _, _, _, _, _, _, _, _, rfl, _⟩ := h; rfl) | (obtain ⟨_, _, _, _, _, _, _, _, _, _, rfl, _⟩ := h; rfl)) h) | (obtain ⟨rfl, _⟩ := h; rfl) | (obtain ⟨_, rfl, _⟩ := h; rfl) | (obtain ⟨_, _, rfl, _⟩ := h; rfl) | (obtain ⟨_, _, _, rfl, _⟩ := h; rfl) | (obtain ⟨_, _, _, _, rfl, _⟩ := h; rfl) | (obtain ⟨_, _, _, _, _, rfl, _⟩ := h; rfl) | (obtain ⟨_, _, _, _, _, _, rfl, _⟩ := h; rfl) | (obtain ⟨_, _, _, _, _, _, _, rfl, _⟩ := h; rfl) | (obtain ⟨_, _, _, _, _, _, _, _, rfl, _⟩ := h; rfl) | (obtain ⟨_, _, _, _, _, _, _, _, _, rfl, _⟩ := h; rfl) | (obtain ⟨_, _, _, _, _, _, _, _, _, _, rfl, _⟩ := h; rfl)) (fun cdv A outer s H vs Q E hr h => ⟨t_l_made n d, ?_, pure_l_made  h⟩)
    exact (pss_cons (ps_set (i := 1) sc_l_made.nd rfl (Or.inl rfl) (pe_lst pa_nil))
        (pss_cons (ps_for PassesOwn.never rfl (pi_list (pv 0)) (pg_name (i := 2) sc_l_made.nd rfl (Or.inl rfl)) (pss_one (ps_if (pt_cmpR op_eq (pe_ix ix_tup (pv 2) pe_int (fun _ _ => rfl)) pe_str (nomark _)) (pss_one (ps_expr (pe_bm PySem.F.plainAttrs_list PySem.F.slot_list_append PySem.F.type_list_append mt_append (pv 1) (pa_cons (pe_make T.K_Let G_Let_init (hr.mono (by omega)) rfl T.g_Let T.B_Let_init .nil pass0 (pa_cons (pe_ix ix_tup (pv 2) pe_int (fun _ _ => rfl)) (pa_cons (pe_ix ix_tup (pv 2) pe_int (fun _ _ => rfl)) pa_nil))) pa_nil)))) (pss_one (ps_if (pt_cmpR op_eq (pe_ix ix_tup (pv 2) pe_int (fun _ _ => rfl)) pe_str (nomark _)) (pss_one (ps_expr (pe_bm PySem.F.plainAttrs_list PySem.F.slot_list_append PySem.F.type_list_append mt_append (pv 1) (pa_cons (pe_make T.K_Reckon G_Reckon_init (hr.mono (by omega)) rfl T.g_Reckon T.B_Reckon_init .nil pass0 (pa_cons (pe_ix ix_tup (pv 2) pe_int (fun _ _ => rfl)) (pa_cons (pe_ix ix_tup (pv 2) pe_int (fun _ _ => rfl)) (pa_cons (pe_ix ix_tup (pv 2) pe_int (fun _ _ => rfl)) (pa_cons (pe_ix ix_tup (pv 2) pe_int (fun _ _ => rfl)) pa_nil))))) pa_nil)))) (pss_one (ps_if (pt_cmpR op_eq (pe_ix ix_tup (pv 2) pe_int (fun _ _ => rfl)) pe_str (nomark _)) (pss_one (ps_expr (pe_bm PySem.F.plainAttrs_list PySem.F.slot_list_append PySem.F.type_list_append mt_append (pv 1) (pa_cons (pe_make T.K_Take G_Take_init (hr.mono (by omega)) rfl T.g_Take T.B_Take_init .nil pass0 (pa_cons (pe_ix ix_tup (pv 2) pe_int (fun _ _ => rfl)) (pa_cons (pe_ix ix_tup (pv 2) pe_int (fun _ _ => rfl)) pa_nil))) pa_nil)))) (pss_one (ps_if (pt_cmpR op_eq (pe_ix ix_tup (pv 2) pe_int (fun _ _ => rfl)) pe_str (nomark _)) (pss_one (ps_expr (pe_bm PySem.F.plainAttrs_list PySem.F.slot_list_append PySem.F.type_list_append mt_append (pv 1) (pa_cons (pe_make T.K_Put G_Put_init (hr.mono (by omega)) rfl T.g_Put T.B_Put_init .nil pass0 (pa_cons (pe_ix ix_tup (pv 2) pe_int (fun _ _ => rfl)) (pa_cons (pe_ix ix_tup (pv 2) pe_int (fun _ _ => rfl)) pa_nil))) pa_nil)))) (pss_one (ps_if (pt_cmpR op_eq (pe_ix ix_tup (pv 2) pe_int (fun _ _ => rfl)) pe_str (nomark _)) (pss_one (ps_expr (pe_bm PySem.F.plainAttrs_list PySem.F.slot_list_append PySem.F.type_list_append mt_append (pv 1) (pa_cons (pe_make T.K_If G_If_init (hr.mono (by omega)) rfl T.g_If T.B_If_init .nil pass0 (pa_cons (pe_ix ix_tup (pv 2) pe_int (fun _ _ => rfl)) (pa_cons (pe_call GN_l_made (hr.mono (by omega)) rfl T.m_l_made T.F_l_made.kp T.B_l_made .nil pass0 (pa_cons (pe_ix ix_tup (pv 2) pe_int (fun _ _ => rfl)) pa_nil)) (pa_cons (pe_call GN_l_made (hr.mono (by omega)) rfl T.m_l_made T.F_l_made.kp T.B_l_made .nil pass0 (pa_cons (pe_ix ix_tup (pv 2) pe_int (fun _ _ => rfl)) pa_nil)) pa_nil)))) pa_nil)))) (pss_one (ps_if (pt_cmpR op_eq (pe_ix ix_tup (pv 2) pe_int (fun _ _ => rfl)) pe_str (nomark _)) (pss_one (ps_expr (pe_bm PySem.F.plainAttrs_list PySem.F.slot_list_append PySem.F.type_list_append mt_append (pv 1) (pa_cons (pe_make T.K_Either G_Either_init (hr.mono (by omega)) rfl T.g_Either T.B_Either_init .nil pass0 (pa_cons (pe_call GN_l_made (hr.mono (by omega)) rfl T.m_l_made T.F_l_made.kp T.B_l_made .nil pass0 (pa_cons (pe_ix ix_tup (pv 2) pe_int (fun _ _ => rfl)) pa_nil)) (pa_cons (pe_call GN_l_made (hr.mono (by omega)) rfl T.m_l_made T.F_l_made.kp T.B_l_made .nil pass0 (pa_cons (pe_ix ix_tup (pv 2) pe_int (fun _ _ => rfl)) pa_nil)) pa_nil))) pa_nil)))) (pss_one (ps_if (pt_cmpR op_eq (pe_ix ix_tup (pv 2) pe_int (fun _ _ => rfl)) pe_str (nomark _)) (pss_one (ps_expr (pe_bm PySem.F.plainAttrs_list PySem.F.slot_list_append PySem.F.type_list_append mt_append (pv 1) (pa_cons (pe_make T.K_Try G_Try_init (hr.mono (by omega)) rfl T.g_Try T.B_Try_init .nil pass0 (pa_cons (pe_call GN_l_made (hr.mono (by omega)) rfl T.m_l_made T.F_l_made.kp T.B_l_made .nil pass0 (pa_cons (pe_ix ix_tup (pv 2) pe_int (fun _ _ => rfl)) pa_nil)) (pa_cons (pe_ix ix_tup (pv 2) pe_int (fun _ _ => rfl)) (pa_cons (pe_ix ix_tup (pv 2) pe_int (fun _ _ => rfl)) (pa_cons (pe_call GN_l_made (hr.mono (by omega)) rfl T.m_l_made T.F_l_made.kp T.B_l_made .nil pass0 (pa_cons (pe_ix ix_tup (pv 2) pe_int (fun _ _ => rfl)) pa_nil)) pa_nil))))) pa_nil)))) (pss_one (ps_if (pt_cmpR op_eq (pe_ix ix_tup (pv 2) pe_int (fun _ _ => rfl)) pe_str (nomark _)) (pss_one (ps_expr (pe_bm PySem.F.plainAttrs_list PySem.F.slot_list_append PySem.F.type_list_append mt_append (pv 1) (pa_cons (pe_make T.K_Throw G_Throw_init (hr.mono (by omega)) rfl T.g_Throw T.B_Throw_init .nil pass0 (pa_cons (pe_ix ix_tup (pv 2) pe_int (fun _ _ => rfl)) (pa_cons (pe_ix ix_tup (pv 2) pe_int (fun _ _ => rfl)) pa_nil))) pa_nil)))) (pss_one (ps_expr (pe_bm PySem.F.plainAttrs_list PySem.F.slot_list_append PySem.F.type_list_append mt_append (pv 1) (pa_cons (pe_makeO T.MO_Wait rfl T.g_Wait) pa_nil)))))))))))))))))))))
        (pss_one (ps_ret (pv 1)))))
theorem ok_l_made (T : Txt d mg z) : FnOk P w d.K mg base CX0 (23) z.f_l_made z.d_l_made ["_law_tree_here"] (sp_l_made d) := okG_l_made T 20
theorem ok_l_ahead (T : Txt d mg z) : FnOk P w d.K mg base CX0 1 z.f_l_ahead z.d_l_ahead ["_law_rows"] (sp_l_ahead d) := by
  refine T.F_l_ahead.ok sc_l_ahead (fun vs H Q E h => by first | (exact lift_len (fun ds W Q h => by first | (obtain ⟨rfl, _⟩ := h; rfl) | (obtain ⟨_, rfl, _⟩ := h; rfl) | (obtain ⟨_, _, rfl, _⟩ := h; rfl) | (obtain ⟨_, _, _, rfl, _⟩ := h; rfl) | (obtain ⟨_, _, _, _, rfl, _⟩ := h; rfl) | (obtain ⟨_, _, _, _, _, rfl, _⟩ := h; rfl) | (obtain ⟨_, _, _, _, _, _, rfl, _⟩ := h; rfl) | (obtain ⟨_, _, _, _, _, _, _, rfl, _⟩ := h; rfl) | (obtain ⟨_, _, _, _, _, _, _, _, rfl, _⟩ := h; rfl) | (obtain ⟨_, _, _, _, _, _, _, _, _, rfl, _⟩ := h; rfl) | (obtain ⟨_, _, _, _, _, _, _, _, _, _, rfl, _⟩ := h; rfl)) h) | (obtain ⟨rfl, _⟩ := h; rfl) | (obtain ⟨_, rfl, _⟩ := h; rfl) | (obtain ⟨_, _, rfl, _⟩ := h; rfl) | (obtain ⟨_, _, _, rfl, _⟩ := h; rfl) | (obtain ⟨_, _, _, _, rfl, _⟩ := h; rfl) | (obtain ⟨_, _, _, _, _, rfl, _⟩ := h; rfl) | (obtain ⟨_, _, _, _, _, _, rfl, _⟩ := h; rfl) | (obtain ⟨_, _, _, _, _, _, _, rfl, _⟩ := h; rfl) | (obtain ⟨_, _, _, _, _, _, _, _, rfl, _⟩ := h; rfl) | (obtain ⟨_, _, _, _, _, _, _, _, _, rfl, _⟩ := h; rfl) | (obtain ⟨_, _, _, _, _, _, _, _, _, _, rfl, _⟩ := h; rfl)) (fun cdv A outer s H vs Q E hr h => ⟨t_l_ahead d, ?_, pure_l_ahead  h⟩)
  exact (pss_cons (ps_for PassesOwn.never rfl (pi_range1 rfl T.b_range (pa_cons (pe_callB call_len_seq (by rfl) T.b_len (by decide +kernel) (pa_cons (pv 0) pa_nil)) pa_nil)) (pg_name (i := 1) sc_l_ahead.nd rfl (Or.inl rfl)) (pss_cons (ps_set (i := 2) sc_l_ahead.nd rfl (Or.inl rfl) (pe_ix ix_list (pv 0) (pv 1) (fun _ _ => rfl)))
      (pss_cons (ps_if (PW.pt (pw_or (pt_not (pt_val (pe_callB call_isi (by rfl) T.b_isinstance (by decide +kernel) (pa_cons (pv 2) (pa_cons (pe_bltn (v := .ty "tuple") (by rfl) T.b_tuple (by decide +kernel) rfl) pa_nil))))) (pw_or1 (pt_cmpR op_eq (pe_callB call_len_seq (by rfl) T.b_len (by decide +kernel) (pa_cons (pv 2) pa_nil)) pe_int (nomark _))))) (pss_one (ps_ret pe_bl)) pss_nil)
      (pss_one (ps_if (pt_cmpR op_in_seq (pe_ix ix_tup (pv 2) pe_int (fun _ _ => rfl)) (pe_tup (pa_cons pe_str (pa_cons pe_str (pa_cons pe_str (pa_cons pe_str pa_nil))))) (by rfl)) (pss_cons (ps_set (i := 3) sc_l_ahead.nd rfl (Or.inl rfl) (pe_ix ix_tup (pv 2) (pe_un un_neg pe_int) (fun _ _ => rfl)))
      (pss_one (ps_if (PW.pt (pw_or (pt_not (pt_val (pe_callB call_isi (by rfl) T.b_isinstance (by decide +kernel) (pa_cons (pv 3) (pa_cons (pe_bltn (v := .ty "int") (by rfl) T.b_int (by decide +kernel) rfl) pa_nil))))) (pw_or (pt_val (pe_callB call_isi (by rfl) T.b_isinstance (by decide +kernel) (pa_cons (pv 3) (pa_cons (pe_bltn (v := .ty "bool") (by rfl) T.b_bool (by decide +kernel) rfl) pa_nil)))) (pw_or1 (pt_not (pt_chain o_lt o_lt (pv 1) (pv 3) (pe_callB call_len_seq (by rfl) T.b_len (by decide +kernel) (pa_cons (pv 0) pa_nil)))))))) (pss_one (ps_ret pe_bl)) pss_nil))) pss_nil)))))
      (pss_one (ps_ret (pe_cmpR (op_eqD hr.units) (pe_ix ix_list (pv 0) (pe_un un_neg pe_int) (fun _ _ => rfl)) (pe_tup (pa_cons pe_str pa_nil)) (nomark _)))))
theorem ok_l_one_back (T : Txt d mg z) : FnOk P w d.K mg base CX0 1 z.f_l_one_back z.d_l_one_back ["_law_row"] (sp_l_one_back d) := by
  refine T.F_l_one_back.ok sc_l_one_back (fun vs H Q E h => by first | (exact lift_len (fun ds W Q h => by first | (obtain ⟨rfl, _⟩ := h; rfl) | (obtain ⟨_, rfl, _⟩ := h; rfl) | (obtain ⟨_, _, rfl, _⟩ := h; rfl) | (obtain ⟨_, _, _, rfl, _⟩ := h; rfl) | (obtain ⟨_, _, _, _, rfl, _⟩ := h; rfl) | (obtain ⟨_, _, _, _, _, rfl, _⟩ := h; rfl) | (obtain ⟨_, _, _, _, _, _, rfl, _⟩ := h; rfl) | (obtain ⟨_, _, _, _, _, _, _, rfl, _⟩ := h; rfl) | (obtain ⟨_, _, _, _, _, _, _, _, rfl, _⟩ := h; rfl) | (obtain ⟨_, _, _, _, _, _, _, _, _, rfl, _⟩ := h; rfl) | (obtain ⟨_, _, _, _, _, _, _, _, _, _, rfl, _⟩ := h; rfl)) h) | (obtain ⟨rfl, _⟩ := h; rfl) | (obtain ⟨_, rfl, _⟩ := h; rfl) | (obtain ⟨_, _, rfl, _⟩ := h; rfl) | (obtain ⟨_, _, _, rfl, _⟩ := h; rfl) | (obtain ⟨_, _, _, _, rfl, _⟩ := h; rfl) | (obtain ⟨_, _, _, _, _, rfl, _⟩ := h; rfl) | (obtain ⟨_, _, _, _, _, _, rfl, _⟩ := h; rfl) | (obtain ⟨_, _, _, _, _, _, _, rfl, _⟩ := h; rfl) | (obtain ⟨_, _, _, _, _, _, _, _, rfl, _⟩ := h; rfl) | (obtain ⟨_, _, _, _, _, _, _, _, _, rfl, _⟩ := h; rfl) | (obtain ⟨_, _, _, _, _, _, _, _, _, _, rfl, _⟩ := h; rfl)) (fun cdv A outer s H vs Q E hr h => ⟨t_l_one_back d, ?_, pure_l_one_back  h⟩)
  exact (pss_cons (ps_if (PW.pt (pw_and (pt_cmpR op_in_seq (pe_ix ix_tup (pv 0) pe_int (fun _ _ => rfl)) (pe_tup (pa_cons pe_str (pa_cons pe_str (pa_cons pe_str (pa_cons pe_str (pa_cons pe_str pa_nil)))))) (by rfl)) (pw_and1 (pt_cmpR op_eq (pe_callB call_len_seq (by rfl) T.b_len (by decide +kernel) (pa_cons (pv 0) pa_nil)) pe_int (nomark _))))) (pss_one (ps_ret (pe_op op_catT (pe_tup (pa_cons pe_str pa_nil)) (pv 0)))) pss_nil)
      (pss_one (ps_ret (pv 0))))
theorem ok_l_joined (T : Txt d mg z) : FnOk P w d.K mg base CX0 1 z.f_l_joined z.d_l_joined ["_law_row", "_law_one", "_law_other"] (sp_l_joined d) := by
  refine T.F_l_joined.ok sc_l_joined (fun vs H Q E h => by first | (exact lift_len (fun ds W Q h => by first | (obtain ⟨rfl, _⟩ := h; rfl) | (obtain ⟨_, rfl, _⟩ := h; rfl) | (obtain ⟨_, _, rfl, _⟩ := h; rfl) | (obtain ⟨_, _, _, rfl, _⟩ := h; rfl) | (obtain ⟨_, _, _, _, rfl, _⟩ := h; rfl) | (obtain ⟨_, _, _, _, _, rfl, _⟩ := h; rfl) | (obtain ⟨_, _, _, _, _, _, rfl, _⟩ := h; rfl) | (obtain ⟨_, _, _, _, _, _, _, rfl, _⟩ := h; rfl) | (obtain ⟨_, _, _, _, _, _, _, _, rfl, _⟩ := h; rfl) | (obtain ⟨_, _, _, _, _, _, _, _, _, rfl, _⟩ := h; rfl) | (obtain ⟨_, _, _, _, _, _, _, _, _, _, rfl, _⟩ := h; rfl)) h) | (obtain ⟨rfl, _⟩ := h; rfl) | (obtain ⟨_, rfl, _⟩ := h; rfl) | (obtain ⟨_, _, rfl, _⟩ := h; rfl) | (obtain ⟨_, _, _, rfl, _⟩ := h; rfl) | (obtain ⟨_, _, _, _, rfl, _⟩ := h; rfl) | (obtain ⟨_, _, _, _, _, rfl, _⟩ := h; rfl) | (obtain ⟨_, _, _, _, _, _, rfl, _⟩ := h; rfl) | (obtain ⟨_, _, _, _, _, _, _, rfl, _⟩ := h; rfl) | (obtain ⟨_, _, _, _, _, _, _, _, rfl, _⟩ := h; rfl) | (obtain ⟨_, _, _, _, _, _, _, _, _, rfl, _⟩ := h; rfl) | (obtain ⟨_, _, _, _, _, _, _, _, _, _, rfl, _⟩ := h; rfl)) (fun cdv A outer s H vs Q E hr h => ⟨t_l_joined d, ?_, pure_l_joined  h⟩)
  exact (pss_cons (ps_if (pt_cmpR op_eq (pe_ix ix_tup (pv 0) pe_int (fun _ _ => rfl)) pe_str (nomark _)) (pss_one (ps_ret (pe_tup (pa_cons pe_str (pa_cons (pe_ix ix_tup (pv 0) pe_int (fun _ _ => rfl)) (pa_cons (pv 1) (pa_cons (pv 2) pa_nil))))))) pss_nil)
      (pss_cons (ps_if (pt_cmpR op_eq (pe_ix ix_tup (pv 0) pe_int (fun _ _ => rfl)) pe_str (nomark _)) (pss_one (ps_ret (pe_tup (pa_cons pe_str (pa_cons (pv 1) (pa_cons (pv 2) pa_nil)))))) pss_nil)
      (pss_one (ps_ret (pe_tup (pa_cons pe_str (pa_cons (pv 1) (pa_cons (pe_ix ix_tup (pv 0) pe_int (fun _ _ => rfl)) (pa_cons (pe_ix ix_tup (pv 0) pe_int (fun _ _ => rfl)) (pa_cons (pv 2) pa_nil))))))))))
theorem okG_l_back (T : Txt d mg z) : (n : Nat) → FnOk P w d.K mg base CX0 (n + 3) z.f_l_back z.d_l_back ["_law_rows", "_law_at", "_law_end"] (spN_l_back n d)
  | 0 => fnok_no fun vs H Q E h => no_l_back h
  | n + 1 => by
    have G_l_one_back := ok_l_one_back (P := P) (w := w) (base := base) T
    have G_l_joined := ok_l_joined (P := P) (w := w) (base := base) T
    have GG := okG_l_back T n
    have GN_l_back := GG
    refine FnOk.mono (j := n + 3 + 1) ?_ (by omega)
    refine T.F_l_back.ok sc_l_back (fun vs H Q E h => by first | (exact lift_len (fun ds W Q h => by first | (obtain ⟨rfl, _⟩ := h; rfl) | (obtain ⟨_, rfl, _⟩ := h; rfl) | (obtain ⟨_, _, rfl, _⟩ := h; rfl) | (obtain ⟨_, _, _, rfl, _⟩ := h; rfl) | (obtain ⟨_, _, _, _, rfl, _⟩ := h; rfl) | (obtain ⟨_, _, _, _, _, rfl, _⟩ := h; rfl) | (obtain ⟨_, _, _, _, _, _, rfl, _⟩ := h; rfl) | (obtain ⟨_, _, _, _, _, _, _, rfl, _⟩ := h; rfl) | (obtain ⟨_, _, _, _, _, _, _, _, rfl, _⟩ := h; rfl) | (obtain ⟨_, _, _, _, _, _, _, _, _, rfl, _⟩ := h; rfl) | (obtain ⟨_, _, _, _, _, _, _, _, _, _, rfl, _⟩ := h; rfl)) h) | (obtain ⟨rfl, _⟩ := h; rfl) | (obtain ⟨_, rfl, _⟩ := h; rfl) | (obtain ⟨_, _, rfl, _⟩ := h; rfl) | (obtain ⟨_, _, _, rfl, _⟩ := h; rfl) | (obtain ⟨_, _, _, _, rfl, _⟩ := h; rfl) | (obtain ⟨_, _, _, _, _, rfl, _⟩ := h; rfl) | (obtain ⟨_, _, _, _, _, _, rfl, _⟩ := h; rfl) | (obtain ⟨_, _, _, _, _, _, _, rfl, _⟩ := h; rfl) | (obtain ⟨_, _, _, _, _, _, _, _, rfl, _⟩ := h; rfl) | (obtain ⟨_, _, _, _, _, _, _, _, _, rfl, _⟩ := h; rfl) | (obtain ⟨_, _, _, _, _, _, _, _, _, _, rfl, _⟩ := h; rfl)) (fun cdv A outer s H vs Q E hr h => ⟨t_l_back n d, ?_, pure_l_back  h⟩)
    exact (pss_cons (ps_set (i := 3) sc_l_back.nd rfl (Or.inl rfl) (pe_lst pa_nil))
        (pss_cons (ps_while PassesOwn.never (pt_cmpR o_lt (pv 1) (pv 2) (nomark _)) (pss_cons (ps_set (i := 4) sc_l_back.nd rfl (Or.inl rfl) (pe_ix ix_list (pv 0) (pv 1) (fun _ _ => rfl)))
        (pss_one (ps_if (pt_cmpR op_notIn_seq (pe_ix ix_tup (pv 4) pe_int (fun _ _ => rfl)) (pe_tup (pa_cons pe_str (pa_cons pe_str (pa_cons pe_str pa_nil)))) (by rfl)) (pss_cons (ps_expr (pe_bm PySem.F.plainAttrs_list PySem.F.slot_list_append PySem.F.type_list_append mt_append (pv 3) (pa_cons (pe_call G_l_one_back (hr.mono (by omega)) rfl T.m_l_one_back T.F_l_one_back.kp T.B_l_one_back .nil pass0 (pa_cons (pv 4) pa_nil)) pa_nil)))
        (pss_one (ps_set (i := 1) sc_l_back.nd rfl (Or.inl rfl) (pe_op op_add (pv 1) pe_int)))) (pss_cons (ps_set (i := 5) sc_l_back.nd rfl (Or.inl rfl) (pe_ix ix_tup (pv 4) (pe_un un_neg pe_int) (fun _ _ => rfl)))
        (pss_cons (ps_set (i := 6) sc_l_back.nd rfl (Or.inl rfl) (pe_op op_sub (pe_op op_sub (pv 5) pe_int) (pe_callTy call_int1 (by rfl) T.b_int (by decide +kernel) (pa_cons (pe_cmpR op_ne (pe_ix ix_tup (pv 4) pe_int (fun _ _ => rfl)) pe_str (nomark _)) pa_nil))))
        (pss_cons (ps_if (PW.pt (pw_or (pt_cmpR o_gt (pv 5) (pv 2) (nomark _)) (pw_or (pt_cmpR o_le (pv 6) (pv 1) (nomark _)) (pw_or1 (pt_cmpR op_ne (pe_ix ix_tup (pe_ix ix_list (pv 0) (pe_op op_sub (pv 5) pe_int) (fun _ _ => rfl)) pe_int (fun _ _ => rfl)) pe_str (nomark _)))))) (pss_one (ps_ret pe_non)) pss_nil)
        (pss_cons (ps_set (i := 7) sc_l_back.nd rfl (Or.inl rfl) (pe_ix ix_tup (pe_ix ix_list (pv 0) (pe_op op_sub (pv 5) pe_int) (fun _ _ => rfl)) pe_int (fun _ _ => rfl)))
        (pss_cons (ps_if (PW.pt (pw_or (pt_not (pt_chain o_le o_le (pv 5) (pv 7) (pv 2))) (pw_or1 (PW.pt (pw_and (pt_cmpR op_ne (pe_ix ix_tup (pv 4) pe_int (fun _ _ => rfl)) pe_str (nomark _)) (pw_and1 (pt_cmpR (op_neD hr.units) (pe_ix ix_list (pv 0) (pv 6) (fun _ _ => rfl)) (pe_tup (pa_cons pe_str pa_nil)) (nomark _)))))))) (pss_one (ps_ret pe_non)) pss_nil)
        (pss_cons (ps_set (i := 8) sc_l_back.nd rfl (Or.inl rfl) (pe_call GN_l_back (hr.mono (by omega)) rfl T.m_l_back T.F_l_back.kp T.B_l_back .nil pass0 (pa_cons (pv 0) (pa_cons (pe_op op_add (pv 1) pe_int) (pa_cons (pv 6) pa_nil)))))
        (pss_cons (ps_set (i := 9) sc_l_back.nd rfl (Or.inl rfl) (pe_call GN_l_back (hr.mono (by omega)) rfl T.m_l_back T.F_l_back.kp T.B_l_back .nil pass0 (pa_cons (pv 0) (pa_cons (pv 5) (pa_cons (pv 7) pa_nil)))))
        (pss_cons (ps_expr (pe_bm PySem.F.plainAttrs_list PySem.F.slot_list_append PySem.F.type_list_append mt_append (pv 3) (pa_cons (pe_call G_l_joined (hr.mono (by omega)) rfl T.m_l_joined T.F_l_joined.kp T.B_l_joined .nil pass0 (pa_cons (pv 4) (pa_cons (pv 8) (pa_cons (pv 9) pa_nil)))) pa_nil)))
        (pss_one (ps_set (i := 1) sc_l_back.nd rfl (Or.inl rfl) (pv 7)))))))))))))))
        (pss_one (ps_ret (pv 3)))))
theorem ok_l_back (T : Txt d mg z) : FnOk P w d.K mg base CX0 (23) z.f_l_back z.d_l_back ["_law_rows", "_law_at", "_law_end"] (sp_l_back d) := okG_l_back T 20
theorem ok_law (T : Txt d mg z) : FnOk P w d.K mg base CX0 43 z.f_law z.d_law ["_law_script"] (sp_law d) := by
  have G_l_names := ok_l_names (P := P) (w := w) (base := base) T
  have G_l_tree := ok_l_tree (P := P) (w := w) (base := base) T
  have G_rows_of := ok_rows_of (P := P) (w := w) (base := base) T
  have G_l_made := ok_l_made (P := P) (w := w) (base := base) T
  have G_l_ahead := ok_l_ahead (P := P) (w := w) (base := base) T
  have G_l_back := ok_l_back (P := P) (w := w) (base := base) T
  refine T.F_law.ok sc_law (fun vs H Q E h => by first | (exact lift_len (fun ds W Q h => by first | (obtain ⟨rfl, _⟩ := h; rfl) | (obtain ⟨_, rfl, _⟩ := h; rfl) | (obtain ⟨_, _, rfl, _⟩ := h; rfl) | (obtain ⟨_, _, _, rfl, _⟩ := h; rfl) | (obtain ⟨_, _, _, _, rfl, _⟩ := h; rfl) | (obtain ⟨_, _, _, _, _, rfl, _⟩ := h; rfl) | (obtain ⟨_, _, _, _, _, _, rfl, _⟩ := h; rfl) | (obtain ⟨_, _, _, _, _, _, _, rfl, _⟩ := h; rfl) | (obtain ⟨_, _, _, _, _, _, _, _, rfl, _⟩ := h; rfl) | (obtain ⟨_, _, _, _, _, _, _, _, _, rfl, _⟩ := h; rfl) | (obtain ⟨_, _, _, _, _, _, _, _, _, _, rfl, _⟩ := h; rfl)) h) | (obtain ⟨rfl, _⟩ := h; rfl) | (obtain ⟨_, rfl, _⟩ := h; rfl) | (obtain ⟨_, _, rfl, _⟩ := h; rfl) | (obtain ⟨_, _, _, rfl, _⟩ := h; rfl) | (obtain ⟨_, _, _, _, rfl, _⟩ := h; rfl) | (obtain ⟨_, _, _, _, _, rfl, _⟩ := h; rfl) | (obtain ⟨_, _, _, _, _, _, rfl, _⟩ := h; rfl) | (obtain ⟨_, _, _, _, _, _, _, rfl, _⟩ := h; rfl) | (obtain ⟨_, _, _, _, _, _, _, _, rfl, _⟩ := h; rfl) | (obtain ⟨_, _, _, _, _, _, _, _, _, rfl, _⟩ := h; rfl) | (obtain ⟨_, _, _, _, _, _, _, _, _, _, rfl, _⟩ := h; rfl)) (fun cdv A outer s H vs Q E hr h => ⟨t_law d, ?_, pure_law  h⟩)
  exact (pss_cons (ps_set (i := 1) sc_law.nd rfl (Or.inl rfl) (pe_call G_l_names (hr.mono (by omega)) rfl T.m_l_names T.F_l_names.kp T.B_l_names .nil pass0 (pa_cons (pe_callB (cr_sum rfl) (by rfl) T.b_sum (by decide +kernel) (pa_cons (pe_slice sl_list (pv 0) po_none (po_some pe_int)) pa_nil)) pa_nil)))
      (pss_cons (ps_for PassesOwn.never rfl (pi_range3 rfl T.b_range (pa_cons pe_int (pa_cons (pe_callB (call_max2 rfl) (by rfl) T.b_max (by decide +kernel) (pa_cons pe_int (pa_cons (pe_callB call_len_seq (by rfl) T.b_len (by decide +kernel) (pa_cons (pv 0) pa_nil)) pa_nil))) (pa_cons pe_int pa_nil)))) (pg_name (i := 2) sc_law.nd rfl (Or.inl rfl)) (pss_cons (ps_set (i := 3) sc_law.nd rfl (Or.inl rfl) (pe_call G_l_tree (hr.mono (by omega)) rfl T.m_l_tree T.F_l_tree.kp T.B_l_tree .nil pass0 (pa_cons (pe_slice sl_list (pv 0) (po_some (pv 2)) (po_some (pe_op op_add (pv 2) pe_int))) (pa_cons pe_int (pa_cons (pv 1) pa_nil)))))
      (pss_cons (ps_set (i := 4) sc_law.nd rfl (Or.inl rfl) (pe_call G_rows_of (hr.mono (by omega)) rfl T.m_rows_of T.F_rows_of.kp T.B_rows_of .nil pass0 (pa_cons (pe_call G_l_made (hr.mono (by omega)) rfl T.m_l_made T.F_l_made.kp T.B_l_made .nil pass0 (pa_cons (pv 3) pa_nil)) pa_nil)))
      (pss_cons (ps_if (PW.pt (pw_or (pt_not (pt_val (pe_callB call_isi (by rfl) T.b_isinstance (by decide +kernel) (pa_cons (pv 4) (pa_cons (pe_bltn (v := .ty "list") (by rfl) T.b_list (by decide +kernel) rfl) pa_nil))))) (pw_or (pt_cmpR op_eq (pe_callB call_len_seq (by rfl) T.b_len (by decide +kernel) (pa_cons (pv 4) pa_nil)) pe_int (nomark _)) (pw_or1 (pt_not (pt_val (pe_call G_l_ahead (hr.mono (by omega)) rfl T.m_l_ahead T.F_l_ahead.kp T.B_l_ahead .nil pass0 (pa_cons (pv 4) pa_nil)))))))) (pss_one (ps_ret pe_bl)) pss_nil)
      (pss_one (ps_if (pt_cmpR (op_neD hr.units) (pe_call G_l_back (hr.mono (by omega)) rfl T.m_l_back T.F_l_back.kp T.B_l_back .nil pass0 (pa_cons (pv 4) (pa_cons pe_int (pa_cons (pe_op op_sub (pe_callB call_len_seq (by rfl) T.b_len (by decide +kernel) (pa_cons (pv 4) pa_nil)) pe_int) pa_nil)))) (pv 3) (nomark _)) (pss_one (ps_ret pe_bl)) pss_nil))))))
      (pss_one (ps_ret pe_bl))))
end
theorem all_mk {P : Program} {w : World} {K : PySem.W.Frag} {h : Heap} {mg : Str → Option Value} {fa : Addr} (X : K.In h) (G : h.Ns mainGlobals mg) (hfa : mg "law" = some (.ref fa))
    {f_Let_init f_Reckon_init f_Take_init f_Put_init f_If_init f_Either_init f_Try_init f_Throw_init f_plain_row f_two_sides f_part_rows f_rows_from f_rows_of f_l_mixed f_l_wide f_l_names f_l_plain f_l_sided f_l_tree f_l_made f_l_ahead f_l_one_back f_l_joined f_l_back f_law c_Let c_Reckon c_Take c_Put c_If c_Either c_Try c_Throw c_Wait : Addr} {oc_Let_init kV_Let_init dc_Let_init pm_Let_init cd_Let_init ct_Let_init oc_Reckon_init kV_Reckon_init dc_Reckon_init pm_Reckon_init cd_Reckon_init ct_Reckon_init oc_Take_init kV_Take_init dc_Take_init pm_Take_init cd_Take_init ct_Take_init oc_Put_init kV_Put_init dc_Put_init pm_Put_init cd_Put_init ct_Put_init oc_If_init kV_If_init dc_If_init pm_If_init cd_If_init ct_If_init oc_Either_init kV_Either_init dc_Either_init pm_Either_init cd_Either_init ct_Either_init oc_Try_init kV_Try_init dc_Try_init pm_Try_init cd_Try_init ct_Try_init oc_Throw_init kV_Throw_init dc_Throw_init pm_Throw_init cd_Throw_init ct_Throw_init oc_plain_row kV_plain_row dc_plain_row pm_plain_row cd_plain_row ct_plain_row oc_two_sides kV_two_sides dc_two_sides pm_two_sides cd_two_sides ct_two_sides oc_part_rows kV_part_rows dc_part_rows pm_part_rows cd_part_rows ct_part_rows oc_rows_from kV_rows_from dc_rows_from pm_rows_from cd_rows_from ct_rows_from oc_rows_of kV_rows_of dc_rows_of pm_rows_of cd_rows_of ct_rows_of oc_l_mixed kV_l_mixed dc_l_mixed pm_l_mixed cd_l_mixed ct_l_mixed oc_l_wide kV_l_wide dc_l_wide pm_l_wide cd_l_wide ct_l_wide oc_l_names kV_l_names dc_l_names pm_l_names cd_l_names ct_l_names oc_l_plain kV_l_plain dc_l_plain pm_l_plain cd_l_plain ct_l_plain oc_l_sided kV_l_sided dc_l_sided pm_l_sided cd_l_sided ct_l_sided oc_l_tree kV_l_tree dc_l_tree pm_l_tree cd_l_tree ct_l_tree oc_l_made kV_l_made dc_l_made pm_l_made cd_l_made ct_l_made oc_l_ahead kV_l_ahead dc_l_ahead pm_l_ahead cd_l_ahead ct_l_ahead oc_l_one_back kV_l_one_back dc_l_one_back pm_l_one_back cd_l_one_back ct_l_one_back oc_l_joined kV_l_joined dc_l_joined pm_l_joined cd_l_joined ct_l_joined oc_l_back kV_l_back dc_l_back pm_l_back cd_l_back ct_l_back oc_law kV_law dc_law pm_law cd_law ct_law : Value} {od_Let_init an_Let_init od_Reckon_init an_Reckon_init od_Take_init an_Take_init od_Put_init an_Put_init od_If_init an_If_init od_Either_init an_Either_init od_Try_init an_Try_init od_Throw_init an_Throw_init od_plain_row an_plain_row od_two_sides an_two_sides od_part_rows an_part_rows od_rows_from an_rows_from od_rows_of an_rows_of od_l_mixed an_l_mixed od_l_wide an_l_wide od_l_names an_l_names od_l_plain an_l_plain od_l_sided an_l_sided od_l_tree an_l_tree od_l_made an_l_made od_l_ahead an_l_ahead od_l_one_back an_l_one_back od_l_joined an_l_joined od_l_back an_l_back od_law an_law : Option Addr} {sl_Let_init sl_Reckon_init sl_Take_init sl_Put_init sl_If_init sl_Either_init sl_Try_init sl_Throw_init sl_plain_row sl_two_sides sl_part_rows sl_rows_from sl_rows_of sl_l_mixed sl_l_wide sl_l_names sl_l_plain sl_l_sided sl_l_tree sl_l_made sl_l_ahead sl_l_one_back sl_l_joined sl_l_back sl_law : Array (Option Value)}
    (a_Let_init : PySem.W.findIn K (.ref c_Let) "__init__" = some (some (.ref f_Let_init)))
    (i_Let_init : PySem.W.isFn K (.ref f_Let_init) = true)
    (l_Let_init : K.lookup f_Let_init = some ⟨oc_Let_init, od_Let_init, .func (PySem.W.fnOf "__init__" "Let.__init__" (defArgs s_Let_init) (defBody s_Let_init) (defScope s_Let_init) .none kV_Let_init dc_Let_init pm_Let_init an_Let_init cd_Let_init ct_Let_init), sl_Let_init⟩)
    (cc_Let_init : PySem.W.codeIn K cd_Let_init "Let.__init__" = true)
    (kk_Let_init : PySem.W.keepIn K (.ref f_Let_init) = true)
    (a_Reckon_init : PySem.W.findIn K (.ref c_Reckon) "__init__" = some (some (.ref f_Reckon_init)))
    (i_Reckon_init : PySem.W.isFn K (.ref f_Reckon_init) = true)
    (l_Reckon_init : K.lookup f_Reckon_init = some ⟨oc_Reckon_init, od_Reckon_init, .func (PySem.W.fnOf "__init__" "Reckon.__init__" (defArgs s_Reckon_init) (defBody s_Reckon_init) (defScope s_Reckon_init) .none kV_Reckon_init dc_Reckon_init pm_Reckon_init an_Reckon_init cd_Reckon_init ct_Reckon_init), sl_Reckon_init⟩)
    (cc_Reckon_init : PySem.W.codeIn K cd_Reckon_init "Reckon.__init__" = true)
    (kk_Reckon_init : PySem.W.keepIn K (.ref f_Reckon_init) = true)
    (a_Take_init : PySem.W.findIn K (.ref c_Take) "__init__" = some (some (.ref f_Take_init)))
    (i_Take_init : PySem.W.isFn K (.ref f_Take_init) = true)
    (l_Take_init : K.lookup f_Take_init = some ⟨oc_Take_init, od_Take_init, .func (PySem.W.fnOf "__init__" "Take.__init__" (defArgs s_Take_init) (defBody s_Take_init) (defScope s_Take_init) .none kV_Take_init dc_Take_init pm_Take_init an_Take_init cd_Take_init ct_Take_init), sl_Take_init⟩)
    (cc_Take_init : PySem.W.codeIn K cd_Take_init "Take.__init__" = true)
    (kk_Take_init : PySem.W.keepIn K (.ref f_Take_init) = true)
    (a_Put_init : PySem.W.findIn K (.ref c_Put) "__init__" = some (some (.ref f_Put_init)))
    (i_Put_init : PySem.W.isFn K (.ref f_Put_init) = true)
    (l_Put_init : K.lookup f_Put_init = some ⟨oc_Put_init, od_Put_init, .func (PySem.W.fnOf "__init__" "Put.__init__" (defArgs s_Put_init) (defBody s_Put_init) (defScope s_Put_init) .none kV_Put_init dc_Put_init pm_Put_init an_Put_init cd_Put_init ct_Put_init), sl_Put_init⟩)
    (cc_Put_init : PySem.W.codeIn K cd_Put_init "Put.__init__" = true)
    (kk_Put_init : PySem.W.keepIn K (.ref f_Put_init) = true)
    (a_If_init : PySem.W.findIn K (.ref c_If) "__init__" = some (some (.ref f_If_init)))
    (i_If_init : PySem.W.isFn K (.ref f_If_init) = true)
    (l_If_init : K.lookup f_If_init = some ⟨oc_If_init, od_If_init, .func (PySem.W.fnOf "__init__" "If.__init__" (defArgs s_If_init) (defBody s_If_init) (defScope s_If_init) .none kV_If_init dc_If_init pm_If_init an_If_init cd_If_init ct_If_init), sl_If_init⟩)
    (cc_If_init : PySem.W.codeIn K cd_If_init "If.__init__" = true)
    (kk_If_init : PySem.W.keepIn K (.ref f_If_init) = true)
    (a_Either_init : PySem.W.findIn K (.ref c_Either) "__init__" = some (some (.ref f_Either_init)))
    (i_Either_init : PySem.W.isFn K (.ref f_Either_init) = true)
    (l_Either_init : K.lookup f_Either_init = some ⟨oc_Either_init, od_Either_init, .func (PySem.W.fnOf "__init__" "Either.__init__" (defArgs s_Either_init) (defBody s_Either_init) (defScope s_Either_init) .none kV_Either_init dc_Either_init pm_Either_init an_Either_init cd_Either_init ct_Either_init), sl_Either_init⟩)
    (cc_Either_init : PySem.W.codeIn K cd_Either_init "Either.__init__" = true)
    (kk_Either_init : PySem.W.keepIn K (.ref f_Either_init) = true)
    (a_Try_init : PySem.W.findIn K (.ref c_Try) "__init__" = some (some (.ref f_Try_init)))
    (i_Try_init : PySem.W.isFn K (.ref f_Try_init) = true)
    (l_Try_init : K.lookup f_Try_init = some ⟨oc_Try_init, od_Try_init, .func (PySem.W.fnOf "__init__" "Try.__init__" (defArgs s_Try_init) (defBody s_Try_init) (defScope s_Try_init) .none kV_Try_init dc_Try_init pm_Try_init an_Try_init cd_Try_init ct_Try_init), sl_Try_init⟩)
    (cc_Try_init : PySem.W.codeIn K cd_Try_init "Try.__init__" = true)
    (kk_Try_init : PySem.W.keepIn K (.ref f_Try_init) = true)
    (a_Throw_init : PySem.W.findIn K (.ref c_Throw) "__init__" = some (some (.ref f_Throw_init)))
    (i_Throw_init : PySem.W.isFn K (.ref f_Throw_init) = true)
    (l_Throw_init : K.lookup f_Throw_init = some ⟨oc_Throw_init, od_Throw_init, .func (PySem.W.fnOf "__init__" "Throw.__init__" (defArgs s_Throw_init) (defBody s_Throw_init) (defScope s_Throw_init) .none kV_Throw_init dc_Throw_init pm_Throw_init an_Throw_init cd_Throw_init ct_Throw_init), sl_Throw_init⟩)
    (cc_Throw_init : PySem.W.codeIn K cd_Throw_init "Throw.__init__" = true)
    (kk_Throw_init : PySem.W.keepIn K (.ref f_Throw_init) = true)
    (a_plain_row : PySem.W.nsIn K mainGlobals "plain_row" = some (some (.ref f_plain_row)))
    (l_plain_row : K.lookup f_plain_row = some ⟨oc_plain_row, od_plain_row, .func (PySem.W.fnOf "plain_row" "plain_row" (defArgs s_plain_row) (defBody s_plain_row) (defScope s_plain_row) .none kV_plain_row dc_plain_row pm_plain_row an_plain_row cd_plain_row ct_plain_row), sl_plain_row⟩)
    (cc_plain_row : PySem.W.codeIn K cd_plain_row "plain_row" = true)
    (kk_plain_row : PySem.W.keepIn K (.ref f_plain_row) = true)
    (a_two_sides : PySem.W.nsIn K mainGlobals "two_sides" = some (some (.ref f_two_sides)))
    (l_two_sides : K.lookup f_two_sides = some ⟨oc_two_sides, od_two_sides, .func (PySem.W.fnOf "two_sides" "two_sides" (defArgs s_two_sides) (defBody s_two_sides) (defScope s_two_sides) .none kV_two_sides dc_two_sides pm_two_sides an_two_sides cd_two_sides ct_two_sides), sl_two_sides⟩)
    (cc_two_sides : PySem.W.codeIn K cd_two_sides "two_sides" = true)
    (kk_two_sides : PySem.W.keepIn K (.ref f_two_sides) = true)
    (a_part_rows : PySem.W.nsIn K mainGlobals "part_rows" = some (some (.ref f_part_rows)))
    (l_part_rows : K.lookup f_part_rows = some ⟨oc_part_rows, od_part_rows, .func (PySem.W.fnOf "part_rows" "part_rows" (defArgs s_part_rows) (defBody s_part_rows) (defScope s_part_rows) .none kV_part_rows dc_part_rows pm_part_rows an_part_rows cd_part_rows ct_part_rows), sl_part_rows⟩)
    (cc_part_rows : PySem.W.codeIn K cd_part_rows "part_rows" = true)
    (kk_part_rows : PySem.W.keepIn K (.ref f_part_rows) = true)
    (a_rows_from : PySem.W.nsIn K mainGlobals "rows_from" = some (some (.ref f_rows_from)))
    (l_rows_from : K.lookup f_rows_from = some ⟨oc_rows_from, od_rows_from, .func (PySem.W.fnOf "rows_from" "rows_from" (defArgs s_rows_from) (defBody s_rows_from) (defScope s_rows_from) .none kV_rows_from dc_rows_from pm_rows_from an_rows_from cd_rows_from ct_rows_from), sl_rows_from⟩)
    (cc_rows_from : PySem.W.codeIn K cd_rows_from "rows_from" = true)
    (kk_rows_from : PySem.W.keepIn K (.ref f_rows_from) = true)
    (a_rows_of : PySem.W.nsIn K mainGlobals "rows_of" = some (some (.ref f_rows_of)))
    (l_rows_of : K.lookup f_rows_of = some ⟨oc_rows_of, od_rows_of, .func (PySem.W.fnOf "rows_of" "rows_of" (defArgs s_rows_of) (defBody s_rows_of) (defScope s_rows_of) .none kV_rows_of dc_rows_of pm_rows_of an_rows_of cd_rows_of ct_rows_of), sl_rows_of⟩)
    (cc_rows_of : PySem.W.codeIn K cd_rows_of "rows_of" = true)
    (kk_rows_of : PySem.W.keepIn K (.ref f_rows_of) = true)
    (a_l_mixed : PySem.W.nsIn K mainGlobals "_law_mixed" = some (some (.ref f_l_mixed)))
    (l_l_mixed : K.lookup f_l_mixed = some ⟨oc_l_mixed, od_l_mixed, .func (PySem.W.fnOf "_law_mixed" "_law_mixed" (defArgs s_l_mixed) (defBody s_l_mixed) (defScope s_l_mixed) .none kV_l_mixed dc_l_mixed pm_l_mixed an_l_mixed cd_l_mixed ct_l_mixed), sl_l_mixed⟩)
    (cc_l_mixed : PySem.W.codeIn K cd_l_mixed "_law_mixed" = true)
    (kk_l_mixed : PySem.W.keepIn K (.ref f_l_mixed) = true)
    (a_l_wide : PySem.W.nsIn K mainGlobals "_law_wide" = some (some (.ref f_l_wide)))
    (l_l_wide : K.lookup f_l_wide = some ⟨oc_l_wide, od_l_wide, .func (PySem.W.fnOf "_law_wide" "_law_wide" (defArgs s_l_wide) (defBody s_l_wide) (defScope s_l_wide) .none kV_l_wide dc_l_wide pm_l_wide an_l_wide cd_l_wide ct_l_wide), sl_l_wide⟩)
    (cc_l_wide : PySem.W.codeIn K cd_l_wide "_law_wide" = true)
    (kk_l_wide : PySem.W.keepIn K (.ref f_l_wide) = true)
    (a_l_names : PySem.W.nsIn K mainGlobals "_law_names" = some (some (.ref f_l_names)))
    (l_l_names : K.lookup f_l_names = some ⟨oc_l_names, od_l_names, .func (PySem.W.fnOf "_law_names" "_law_names" (defArgs s_l_names) (defBody s_l_names) (defScope s_l_names) .none kV_l_names dc_l_names pm_l_names an_l_names cd_l_names ct_l_names), sl_l_names⟩)
    (cc_l_names : PySem.W.codeIn K cd_l_names "_law_names" = true)
    (kk_l_names : PySem.W.keepIn K (.ref f_l_names) = true)
    (a_l_plain : PySem.W.nsIn K mainGlobals "_law_plain" = some (some (.ref f_l_plain)))
    (l_l_plain : K.lookup f_l_plain = some ⟨oc_l_plain, od_l_plain, .func (PySem.W.fnOf "_law_plain" "_law_plain" (defArgs s_l_plain) (defBody s_l_plain) (defScope s_l_plain) .none kV_l_plain dc_l_plain pm_l_plain an_l_plain cd_l_plain ct_l_plain), sl_l_plain⟩)
    (cc_l_plain : PySem.W.codeIn K cd_l_plain "_law_plain" = true)
    (kk_l_plain : PySem.W.keepIn K (.ref f_l_plain) = true)
    (a_l_sided : PySem.W.nsIn K mainGlobals "_law_sided" = some (some (.ref f_l_sided)))
    (l_l_sided : K.lookup f_l_sided = some ⟨oc_l_sided, od_l_sided, .func (PySem.W.fnOf "_law_sided" "_law_sided" (defArgs s_l_sided) (defBody s_l_sided) (defScope s_l_sided) .none kV_l_sided dc_l_sided pm_l_sided an_l_sided cd_l_sided ct_l_sided), sl_l_sided⟩)
    (cc_l_sided : PySem.W.codeIn K cd_l_sided "_law_sided" = true)
    (kk_l_sided : PySem.W.keepIn K (.ref f_l_sided) = true)
    (a_l_tree : PySem.W.nsIn K mainGlobals "_law_tree" = some (some (.ref f_l_tree)))
    (l_l_tree : K.lookup f_l_tree = some ⟨oc_l_tree, od_l_tree, .func (PySem.W.fnOf "_law_tree" "_law_tree" (defArgs s_l_tree) (defBody s_l_tree) (defScope s_l_tree) .none kV_l_tree dc_l_tree pm_l_tree an_l_tree cd_l_tree ct_l_tree), sl_l_tree⟩)
    (cc_l_tree : PySem.W.codeIn K cd_l_tree "_law_tree" = true)
    (kk_l_tree : PySem.W.keepIn K (.ref f_l_tree) = true)
    (a_l_made : PySem.W.nsIn K mainGlobals "_law_made" = some (some (.ref f_l_made)))
    (l_l_made : K.lookup f_l_made = some ⟨oc_l_made, od_l_made, .func (PySem.W.fnOf "_law_made" "_law_made" (defArgs s_l_made) (defBody s_l_made) (defScope s_l_made) .none kV_l_made dc_l_made pm_l_made an_l_made cd_l_made ct_l_made), sl_l_made⟩)
    (cc_l_made : PySem.W.codeIn K cd_l_made "_law_made" = true)
    (kk_l_made : PySem.W.keepIn K (.ref f_l_made) = true)
    (a_l_ahead : PySem.W.nsIn K mainGlobals "_law_ahead" = some (some (.ref f_l_ahead)))
    (l_l_ahead : K.lookup f_l_ahead = some ⟨oc_l_ahead, od_l_ahead, .func (PySem.W.fnOf "_law_ahead" "_law_ahead" (defArgs s_l_ahead) (defBody s_l_ahead) (defScope s_l_ahead) .none kV_l_ahead dc_l_ahead pm_l_ahead an_l_ahead cd_l_ahead ct_l_ahead), sl_l_ahead⟩)
    (cc_l_ahead : PySem.W.codeIn K cd_l_ahead "_law_ahead" = true)
    (kk_l_ahead : PySem.W.keepIn K (.ref f_l_ahead) = true)
    (a_l_one_back : PySem.W.nsIn K mainGlobals "_law_one_back" = some (some (.ref f_l_one_back)))
    (l_l_one_back : K.lookup f_l_one_back = some ⟨oc_l_one_back, od_l_one_back, .func (PySem.W.fnOf "_law_one_back" "_law_one_back" (defArgs s_l_one_back) (defBody s_l_one_back) (defScope s_l_one_back) .none kV_l_one_back dc_l_one_back pm_l_one_back an_l_one_back cd_l_one_back ct_l_one_back), sl_l_one_back⟩)
    (cc_l_one_back : PySem.W.codeIn K cd_l_one_back "_law_one_back" = true)
    (kk_l_one_back : PySem.W.keepIn K (.ref f_l_one_back) = true)
    (a_l_joined : PySem.W.nsIn K mainGlobals "_law_joined" = some (some (.ref f_l_joined)))
    (l_l_joined : K.lookup f_l_joined = some ⟨oc_l_joined, od_l_joined, .func (PySem.W.fnOf "_law_joined" "_law_joined" (defArgs s_l_joined) (defBody s_l_joined) (defScope s_l_joined) .none kV_l_joined dc_l_joined pm_l_joined an_l_joined cd_l_joined ct_l_joined), sl_l_joined⟩)
    (cc_l_joined : PySem.W.codeIn K cd_l_joined "_law_joined" = true)
    (kk_l_joined : PySem.W.keepIn K (.ref f_l_joined) = true)
    (a_l_back : PySem.W.nsIn K mainGlobals "_law_back" = some (some (.ref f_l_back)))
    (l_l_back : K.lookup f_l_back = some ⟨oc_l_back, od_l_back, .func (PySem.W.fnOf "_law_back" "_law_back" (defArgs s_l_back) (defBody s_l_back) (defScope s_l_back) .none kV_l_back dc_l_back pm_l_back an_l_back cd_l_back ct_l_back), sl_l_back⟩)
    (cc_l_back : PySem.W.codeIn K cd_l_back "_law_back" = true)
    (kk_l_back : PySem.W.keepIn K (.ref f_l_back) = true)
    (a_law : PySem.W.nsIn K mainGlobals "law" = some (some (.ref f_law)))
    (l_law : K.lookup f_law = some ⟨oc_law, od_law, .func (PySem.W.fnOf "law" "law" (defArgs s_law) (defBody s_law) (defScope s_law) .none kV_law dc_law pm_law an_law cd_law ct_law), sl_law⟩)
    (cc_law : PySem.W.codeIn K cd_law "law" = true)
    (kk_law : PySem.W.keepIn K (.ref f_law) = true)
    (b_bool : PySem.W.nsIn K mainGlobals "bool" = some none)
    (b_int : PySem.W.nsIn K mainGlobals "int" = some none)
    (b_isinstance : PySem.W.nsIn K mainGlobals "isinstance" = some none)
    (b_len : PySem.W.nsIn K mainGlobals "len" = some none)
    (b_list : PySem.W.nsIn K mainGlobals "list" = some none)
    (b_max : PySem.W.nsIn K mainGlobals "max" = some none)
    (b_range : PySem.W.nsIn K mainGlobals "range" = some none)
    (b_sum : PySem.W.nsIn K mainGlobals "sum" = some none)
    (b_tuple : PySem.W.nsIn K mainGlobals "tuple" = some none)
    (g_Let : PySem.W.nsIn K mainGlobals "Let" = some (some (.ref c_Let)))
    (pg_Let : PySem.W.plainGet K c_Let Str.empty = true)
    (hd_Let : PySem.W.hasDictIn K c_Let = true)
    (po_Let : PySem.W.plainOver K c_Let = true)
    (sa_Let : PySem.W.findIn K (.ref c_Let) "__setattr__" = some (some (.builtin "object.__setattr__")))
    (mk_Let : PySem.W.makesIn K c_Let = true)
    (kc_Let : PySem.W.keepIn K (.ref c_Let) = true)
    (g_Reckon : PySem.W.nsIn K mainGlobals "Reckon" = some (some (.ref c_Reckon)))
    (pg_Reckon : PySem.W.plainGet K c_Reckon Str.empty = true)
    (hd_Reckon : PySem.W.hasDictIn K c_Reckon = true)
    (po_Reckon : PySem.W.plainOver K c_Reckon = true)
    (sa_Reckon : PySem.W.findIn K (.ref c_Reckon) "__setattr__" = some (some (.builtin "object.__setattr__")))
    (mk_Reckon : PySem.W.makesIn K c_Reckon = true)
    (kc_Reckon : PySem.W.keepIn K (.ref c_Reckon) = true)
    (g_Take : PySem.W.nsIn K mainGlobals "Take" = some (some (.ref c_Take)))
    (pg_Take : PySem.W.plainGet K c_Take Str.empty = true)
    (hd_Take : PySem.W.hasDictIn K c_Take = true)
    (po_Take : PySem.W.plainOver K c_Take = true)
    (sa_Take : PySem.W.findIn K (.ref c_Take) "__setattr__" = some (some (.builtin "object.__setattr__")))
    (mk_Take : PySem.W.makesIn K c_Take = true)
    (kc_Take : PySem.W.keepIn K (.ref c_Take) = true)
    (g_Put : PySem.W.nsIn K mainGlobals "Put" = some (some (.ref c_Put)))
    (pg_Put : PySem.W.plainGet K c_Put Str.empty = true)
    (hd_Put : PySem.W.hasDictIn K c_Put = true)
    (po_Put : PySem.W.plainOver K c_Put = true)
    (sa_Put : PySem.W.findIn K (.ref c_Put) "__setattr__" = some (some (.builtin "object.__setattr__")))
    (mk_Put : PySem.W.makesIn K c_Put = true)
    (kc_Put : PySem.W.keepIn K (.ref c_Put) = true)
    (g_If : PySem.W.nsIn K mainGlobals "If" = some (some (.ref c_If)))
    (pg_If : PySem.W.plainGet K c_If Str.empty = true)
    (hd_If : PySem.W.hasDictIn K c_If = true)
    (po_If : PySem.W.plainOver K c_If = true)
    (sa_If : PySem.W.findIn K (.ref c_If) "__setattr__" = some (some (.builtin "object.__setattr__")))
    (mk_If : PySem.W.makesIn K c_If = true)
    (kc_If : PySem.W.keepIn K (.ref c_If) = true)
    (g_Either : PySem.W.nsIn K mainGlobals "Either" = some (some (.ref c_Either)))
    (pg_Either : PySem.W.plainGet K c_Either Str.empty = true)
    (hd_Either : PySem.W.hasDictIn K c_Either = true)
    (po_Either : PySem.W.plainOver K c_Either = true)
    (sa_Either : PySem.W.findIn K (.ref c_Either) "__setattr__" = some (some (.builtin "object.__setattr__")))
    (mk_Either : PySem.W.makesIn K c_Either = true)
    (kc_Either : PySem.W.keepIn K (.ref c_Either) = true)
    (g_Try : PySem.W.nsIn K mainGlobals "Try" = some (some (.ref c_Try)))
    (pg_Try : PySem.W.plainGet K c_Try Str.empty = true)
    (hd_Try : PySem.W.hasDictIn K c_Try = true)
    (po_Try : PySem.W.plainOver K c_Try = true)
    (sa_Try : PySem.W.findIn K (.ref c_Try) "__setattr__" = some (some (.builtin "object.__setattr__")))
    (mk_Try : PySem.W.makesIn K c_Try = true)
    (kc_Try : PySem.W.keepIn K (.ref c_Try) = true)
    (g_Throw : PySem.W.nsIn K mainGlobals "Throw" = some (some (.ref c_Throw)))
    (pg_Throw : PySem.W.plainGet K c_Throw Str.empty = true)
    (hd_Throw : PySem.W.hasDictIn K c_Throw = true)
    (po_Throw : PySem.W.plainOver K c_Throw = true)
    (sa_Throw : PySem.W.findIn K (.ref c_Throw) "__setattr__" = some (some (.builtin "object.__setattr__")))
    (mk_Throw : PySem.W.makesIn K c_Throw = true)
    (kc_Throw : PySem.W.keepIn K (.ref c_Throw) = true)
    (g_Wait : PySem.W.nsIn K mainGlobals "Wait" = some (some (.ref c_Wait)))
    (pg_Wait : PySem.W.plainGet K c_Wait Str.empty = true)
    (hd_Wait : PySem.W.hasDictIn K c_Wait = true)
    (po_Wait : PySem.W.plainOver K c_Wait = true)
    (sa_Wait : PySem.W.findIn K (.ref c_Wait) "__setattr__" = some (some (.builtin "object.__setattr__")))
    (mk_Wait : PySem.W.makesIn K c_Wait = true)
    (kc_Wait : PySem.W.keepIn K (.ref c_Wait) = true)
    (in_Wait : PySem.W.findIn K (.ref c_Wait) "__init__" = some (some (.builtin "object.__init__")))
    (kgs : PySem.W.specialIn K (.builtin "object.__class__") "__get__" = some (some (.builtin "getset_descriptor.__get__")))
    (ktk : PySem.W.takesIn K (.builtin "object.__class__") = some true)
    (kcc_Let : PySem.W.findIn K (.ref c_Let) "__class__" = some (some (.builtin "object.__class__")))
    (kmo_Let : PySem.W.mroIn K c_Let (.type "object") = some true)
    (nslot_Let : PySem.W.findIn K (.ref c_Let) "slot" = some none)
    (nnumber_Let : PySem.W.findIn K (.ref c_Let) "number" = some none)
    (kit_Let_Let : PySem.W.kitOne K (.ref c_Let) (.ref c_Let) = some true)
    (kit_Let_Reckon : PySem.W.kitOne K (.ref c_Let) (.ref c_Reckon) = some false)
    (kit_Let_Take : PySem.W.kitOne K (.ref c_Let) (.ref c_Take) = some false)
    (kit_Let_Put : PySem.W.kitOne K (.ref c_Let) (.ref c_Put) = some false)
    (kit_Let_If : PySem.W.kitOne K (.ref c_Let) (.ref c_If) = some false)
    (kit_Let_Either : PySem.W.kitOne K (.ref c_Let) (.ref c_Either) = some false)
    (kit_Let_Try : PySem.W.kitOne K (.ref c_Let) (.ref c_Try) = some false)
    (kit_Let_Throw : PySem.W.kitOne K (.ref c_Let) (.ref c_Throw) = some false)
    (kcc_Reckon : PySem.W.findIn K (.ref c_Reckon) "__class__" = some (some (.builtin "object.__class__")))
    (kmo_Reckon : PySem.W.mroIn K c_Reckon (.type "object") = some true)
    (nword_Reckon : PySem.W.findIn K (.ref c_Reckon) "word" = some none)
    (nslot_Reckon : PySem.W.findIn K (.ref c_Reckon) "slot" = some none)
    (none_Reckon : PySem.W.findIn K (.ref c_Reckon) "one" = some none)
    (nother_Reckon : PySem.W.findIn K (.ref c_Reckon) "other" = some none)
    (kit_Reckon_Let : PySem.W.kitOne K (.ref c_Reckon) (.ref c_Let) = some false)
    (kit_Reckon_Reckon : PySem.W.kitOne K (.ref c_Reckon) (.ref c_Reckon) = some true)
    (kit_Reckon_Take : PySem.W.kitOne K (.ref c_Reckon) (.ref c_Take) = some false)
    (kit_Reckon_Put : PySem.W.kitOne K (.ref c_Reckon) (.ref c_Put) = some false)
    (kit_Reckon_If : PySem.W.kitOne K (.ref c_Reckon) (.ref c_If) = some false)
    (kit_Reckon_Either : PySem.W.kitOne K (.ref c_Reckon) (.ref c_Either) = some false)
    (kit_Reckon_Try : PySem.W.kitOne K (.ref c_Reckon) (.ref c_Try) = some false)
    (kit_Reckon_Throw : PySem.W.kitOne K (.ref c_Reckon) (.ref c_Throw) = some false)
    (kcc_Take : PySem.W.findIn K (.ref c_Take) "__class__" = some (some (.builtin "object.__class__")))
    (kmo_Take : PySem.W.mroIn K c_Take (.type "object") = some true)
    (nslot_Take : PySem.W.findIn K (.ref c_Take) "slot" = some none)
    (nplace_Take : PySem.W.findIn K (.ref c_Take) "place" = some none)
    (kit_Take_Let : PySem.W.kitOne K (.ref c_Take) (.ref c_Let) = some false)
    (kit_Take_Reckon : PySem.W.kitOne K (.ref c_Take) (.ref c_Reckon) = some false)
    (kit_Take_Take : PySem.W.kitOne K (.ref c_Take) (.ref c_Take) = some true)
    (kit_Take_Put : PySem.W.kitOne K (.ref c_Take) (.ref c_Put) = some false)
    (kit_Take_If : PySem.W.kitOne K (.ref c_Take) (.ref c_If) = some false)
    (kit_Take_Either : PySem.W.kitOne K (.ref c_Take) (.ref c_Either) = some false)
    (kit_Take_Try : PySem.W.kitOne K (.ref c_Take) (.ref c_Try) = some false)
    (kit_Take_Throw : PySem.W.kitOne K (.ref c_Take) (.ref c_Throw) = some false)
    (kcc_Put : PySem.W.findIn K (.ref c_Put) "__class__" = some (some (.builtin "object.__class__")))
    (kmo_Put : PySem.W.mroIn K c_Put (.type "object") = some true)
    (nplace_Put : PySem.W.findIn K (.ref c_Put) "place" = some none)
    (nslot_Put : PySem.W.findIn K (.ref c_Put) "slot" = some none)
    (kit_Put_Let : PySem.W.kitOne K (.ref c_Put) (.ref c_Let) = some false)
    (kit_Put_Reckon : PySem.W.kitOne K (.ref c_Put) (.ref c_Reckon) = some false)
    (kit_Put_Take : PySem.W.kitOne K (.ref c_Put) (.ref c_Take) = some false)
    (kit_Put_Put : PySem.W.kitOne K (.ref c_Put) (.ref c_Put) = some true)
    (kit_Put_If : PySem.W.kitOne K (.ref c_Put) (.ref c_If) = some false)
    (kit_Put_Either : PySem.W.kitOne K (.ref c_Put) (.ref c_Either) = some false)
    (kit_Put_Try : PySem.W.kitOne K (.ref c_Put) (.ref c_Try) = some false)
    (kit_Put_Throw : PySem.W.kitOne K (.ref c_Put) (.ref c_Throw) = some false)
    (kcc_If : PySem.W.findIn K (.ref c_If) "__class__" = some (some (.builtin "object.__class__")))
    (kmo_If : PySem.W.mroIn K c_If (.type "object") = some true)
    (nslot_If : PySem.W.findIn K (.ref c_If) "slot" = some none)
    (nparts_If : PySem.W.findIn K (.ref c_If) "parts" = some none)
    (nothers_If : PySem.W.findIn K (.ref c_If) "others" = some none)
    (kit_If_Let : PySem.W.kitOne K (.ref c_If) (.ref c_Let) = some false)
    (kit_If_Reckon : PySem.W.kitOne K (.ref c_If) (.ref c_Reckon) = some false)
    (kit_If_Take : PySem.W.kitOne K (.ref c_If) (.ref c_Take) = some false)
    (kit_If_Put : PySem.W.kitOne K (.ref c_If) (.ref c_Put) = some false)
    (kit_If_If : PySem.W.kitOne K (.ref c_If) (.ref c_If) = some true)
    (kit_If_Either : PySem.W.kitOne K (.ref c_If) (.ref c_Either) = some false)
    (kit_If_Try : PySem.W.kitOne K (.ref c_If) (.ref c_Try) = some false)
    (kit_If_Throw : PySem.W.kitOne K (.ref c_If) (.ref c_Throw) = some false)
    (kcc_Either : PySem.W.findIn K (.ref c_Either) "__class__" = some (some (.builtin "object.__class__")))
    (kmo_Either : PySem.W.mroIn K c_Either (.type "object") = some true)
    (nparts_Either : PySem.W.findIn K (.ref c_Either) "parts" = some none)
    (nothers_Either : PySem.W.findIn K (.ref c_Either) "others" = some none)
    (kit_Either_Let : PySem.W.kitOne K (.ref c_Either) (.ref c_Let) = some false)
    (kit_Either_Reckon : PySem.W.kitOne K (.ref c_Either) (.ref c_Reckon) = some false)
    (kit_Either_Take : PySem.W.kitOne K (.ref c_Either) (.ref c_Take) = some false)
    (kit_Either_Put : PySem.W.kitOne K (.ref c_Either) (.ref c_Put) = some false)
    (kit_Either_If : PySem.W.kitOne K (.ref c_Either) (.ref c_If) = some false)
    (kit_Either_Either : PySem.W.kitOne K (.ref c_Either) (.ref c_Either) = some true)
    (kit_Either_Try : PySem.W.kitOne K (.ref c_Either) (.ref c_Try) = some false)
    (kit_Either_Throw : PySem.W.kitOne K (.ref c_Either) (.ref c_Throw) = some false)
    (kcc_Try : PySem.W.findIn K (.ref c_Try) "__class__" = some (some (.builtin "object.__class__")))
    (kmo_Try : PySem.W.mroIn K c_Try (.type "object") = some true)
    (nparts_Try : PySem.W.findIn K (.ref c_Try) "parts" = some none)
    (nname_Try : PySem.W.findIn K (.ref c_Try) "name" = some none)
    (nslot_Try : PySem.W.findIn K (.ref c_Try) "slot" = some none)
    (nothers_Try : PySem.W.findIn K (.ref c_Try) "others" = some none)
    (kit_Try_Let : PySem.W.kitOne K (.ref c_Try) (.ref c_Let) = some false)
    (kit_Try_Reckon : PySem.W.kitOne K (.ref c_Try) (.ref c_Reckon) = some false)
    (kit_Try_Take : PySem.W.kitOne K (.ref c_Try) (.ref c_Take) = some false)
    (kit_Try_Put : PySem.W.kitOne K (.ref c_Try) (.ref c_Put) = some false)
    (kit_Try_If : PySem.W.kitOne K (.ref c_Try) (.ref c_If) = some false)
    (kit_Try_Either : PySem.W.kitOne K (.ref c_Try) (.ref c_Either) = some false)
    (kit_Try_Try : PySem.W.kitOne K (.ref c_Try) (.ref c_Try) = some true)
    (kit_Try_Throw : PySem.W.kitOne K (.ref c_Try) (.ref c_Throw) = some false)
    (kcc_Throw : PySem.W.findIn K (.ref c_Throw) "__class__" = some (some (.builtin "object.__class__")))
    (kmo_Throw : PySem.W.mroIn K c_Throw (.type "object") = some true)
    (nname_Throw : PySem.W.findIn K (.ref c_Throw) "name" = some none)
    (nslot_Throw : PySem.W.findIn K (.ref c_Throw) "slot" = some none)
    (kit_Throw_Let : PySem.W.kitOne K (.ref c_Throw) (.ref c_Let) = some false)
    (kit_Throw_Reckon : PySem.W.kitOne K (.ref c_Throw) (.ref c_Reckon) = some false)
    (kit_Throw_Take : PySem.W.kitOne K (.ref c_Throw) (.ref c_Take) = some false)
    (kit_Throw_Put : PySem.W.kitOne K (.ref c_Throw) (.ref c_Put) = some false)
    (kit_Throw_If : PySem.W.kitOne K (.ref c_Throw) (.ref c_If) = some false)
    (kit_Throw_Either : PySem.W.kitOne K (.ref c_Throw) (.ref c_Either) = some false)
    (kit_Throw_Try : PySem.W.kitOne K (.ref c_Throw) (.ref c_Try) = some false)
    (kit_Throw_Throw : PySem.W.kitOne K (.ref c_Throw) (.ref c_Throw) = some true)
    (kcc_Wait : PySem.W.findIn K (.ref c_Wait) "__class__" = some (some (.builtin "object.__class__")))
    (kmo_Wait : PySem.W.mroIn K c_Wait (.type "object") = some true)
    (kit_Wait_Let : PySem.W.kitOne K (.ref c_Wait) (.ref c_Let) = some false)
    (kit_Wait_Reckon : PySem.W.kitOne K (.ref c_Wait) (.ref c_Reckon) = some false)
    (kit_Wait_Take : PySem.W.kitOne K (.ref c_Wait) (.ref c_Take) = some false)
    (kit_Wait_Put : PySem.W.kitOne K (.ref c_Wait) (.ref c_Put) = some false)
    (kit_Wait_If : PySem.W.kitOne K (.ref c_Wait) (.ref c_If) = some false)
    (kit_Wait_Either : PySem.W.kitOne K (.ref c_Wait) (.ref c_Either) = some false)
    (kit_Wait_Try : PySem.W.kitOne K (.ref c_Wait) (.ref c_Try) = some false)
    (kit_Wait_Throw : PySem.W.kitOne K (.ref c_Wait) (.ref c_Throw) = some false)
    : ∃ fd : FuncData, (∀ (s : Shared) (v : Value), BindsTo s fd ⟨[v], []⟩ [("_law_script", v)]) ∧ ∀ base : Heap, K.In base → base.Ns mainGlobals mg → FnOk P w K mg base CX0 43 fa fd ["_law_script"] (spLaw K) := by
  have e := hfa.symm.trans (PySem.W.mg_of X G a_law)
  cases e
  have F_Let_init := fun_mk (st := s_Let_init) l_Let_init cc_Let_init kk_Let_init
  have F_Reckon_init := fun_mk (st := s_Reckon_init) l_Reckon_init cc_Reckon_init kk_Reckon_init
  have F_Take_init := fun_mk (st := s_Take_init) l_Take_init cc_Take_init kk_Take_init
  have F_Put_init := fun_mk (st := s_Put_init) l_Put_init cc_Put_init kk_Put_init
  have F_If_init := fun_mk (st := s_If_init) l_If_init cc_If_init kk_If_init
  have F_Either_init := fun_mk (st := s_Either_init) l_Either_init cc_Either_init kk_Either_init
  have F_Try_init := fun_mk (st := s_Try_init) l_Try_init cc_Try_init kk_Try_init
  have F_Throw_init := fun_mk (st := s_Throw_init) l_Throw_init cc_Throw_init kk_Throw_init
  have F_plain_row := fun_mk (st := s_plain_row) l_plain_row cc_plain_row kk_plain_row
  have F_two_sides := fun_mk (st := s_two_sides) l_two_sides cc_two_sides kk_two_sides
  have F_part_rows := fun_mk (st := s_part_rows) l_part_rows cc_part_rows kk_part_rows
  have F_rows_from := fun_mk (st := s_rows_from) l_rows_from cc_rows_from kk_rows_from
  have F_rows_of := fun_mk (st := s_rows_of) l_rows_of cc_rows_of kk_rows_of
  have F_l_mixed := fun_mk (st := s_l_mixed) l_l_mixed cc_l_mixed kk_l_mixed
  have F_l_wide := fun_mk (st := s_l_wide) l_l_wide cc_l_wide kk_l_wide
  have F_l_names := fun_mk (st := s_l_names) l_l_names cc_l_names kk_l_names
  have F_l_plain := fun_mk (st := s_l_plain) l_l_plain cc_l_plain kk_l_plain
  have F_l_sided := fun_mk (st := s_l_sided) l_l_sided cc_l_sided kk_l_sided
  have F_l_tree := fun_mk (st := s_l_tree) l_l_tree cc_l_tree kk_l_tree
  have F_l_made := fun_mk (st := s_l_made) l_l_made cc_l_made kk_l_made
  have F_l_ahead := fun_mk (st := s_l_ahead) l_l_ahead cc_l_ahead kk_l_ahead
  have F_l_one_back := fun_mk (st := s_l_one_back) l_l_one_back cc_l_one_back kk_l_one_back
  have F_l_joined := fun_mk (st := s_l_joined) l_l_joined cc_l_joined kk_l_joined
  have F_l_back := fun_mk (st := s_l_back) l_l_back cc_l_back kk_l_back
  have F_law := fun_mk (st := s_law) l_law cc_law kk_law
  let d : Ad := { K := K, cLet := c_Let, cReckon := c_Reckon, cTake := c_Take, cPut := c_Put, cIf := c_If, cEither := c_Either, cTry := c_Try, cThrow := c_Throw, cWait := c_Wait }
  have T : Txt d mg { f_Let_init := f_Let_init, d_Let_init := _, f_Reckon_init := f_Reckon_init, d_Reckon_init := _, f_Take_init := f_Take_init, d_Take_init := _, f_Put_init := f_Put_init, d_Put_init := _, f_If_init := f_If_init, d_If_init := _, f_Either_init := f_Either_init, d_Either_init := _, f_Try_init := f_Try_init, d_Try_init := _, f_Throw_init := f_Throw_init, d_Throw_init := _, f_plain_row := f_plain_row, d_plain_row := _, f_two_sides := f_two_sides, d_two_sides := _, f_part_rows := f_part_rows, d_part_rows := _, f_rows_from := f_rows_from, d_rows_from := _, f_rows_of := f_rows_of, d_rows_of := _, f_l_mixed := f_l_mixed, d_l_mixed := _, f_l_wide := f_l_wide, d_l_wide := _, f_l_names := f_l_names, d_l_names := _, f_l_plain := f_l_plain, d_l_plain := _, f_l_sided := f_l_sided, d_l_sided := _, f_l_tree := f_l_tree, d_l_tree := _, f_l_made := f_l_made, d_l_made := _, f_l_ahead := f_l_ahead, d_l_ahead := _, f_l_one_back := f_l_one_back, d_l_one_back := _, f_l_joined := f_l_joined, d_l_joined := _, f_l_back := f_l_back, d_l_back := _, f_law := fa, d_law := _ } :=
    { F_Let_init := F_Let_init
      B_Let_init := F_Let_init.binds (ps := ["self", "slot", "number"]) fun _ _ _ _ _ _ us hl => match us, hl with | [_, _, _], _ => rfl
      K_Let := ⟨mk_Let, a_Let_init, i_Let_init, kc_Let⟩
      F_Reckon_init := F_Reckon_init
      B_Reckon_init := F_Reckon_init.binds (ps := ["self", "word", "slot", "one", "other"]) fun _ _ _ _ _ _ us hl => match us, hl with | [_, _, _, _, _], _ => rfl
      K_Reckon := ⟨mk_Reckon, a_Reckon_init, i_Reckon_init, kc_Reckon⟩
      F_Take_init := F_Take_init
      B_Take_init := F_Take_init.binds (ps := ["self", "slot", "place"]) fun _ _ _ _ _ _ us hl => match us, hl with | [_, _, _], _ => rfl
      K_Take := ⟨mk_Take, a_Take_init, i_Take_init, kc_Take⟩
      F_Put_init := F_Put_init
      B_Put_init := F_Put_init.binds (ps := ["self", "place", "slot"]) fun _ _ _ _ _ _ us hl => match us, hl with | [_, _, _], _ => rfl
      K_Put := ⟨mk_Put, a_Put_init, i_Put_init, kc_Put⟩
      F_If_init := F_If_init
      B_If_init := F_If_init.binds (ps := ["self", "slot", "parts", "others"]) fun _ _ _ _ _ _ us hl => match us, hl with | [_, _, _, _], _ => rfl
      K_If := ⟨mk_If, a_If_init, i_If_init, kc_If⟩
      F_Either_init := F_Either_init
      B_Either_init := F_Either_init.binds (ps := ["self", "parts", "others"]) fun _ _ _ _ _ _ us hl => match us, hl with | [_, _, _], _ => rfl
      K_Either := ⟨mk_Either, a_Either_init, i_Either_init, kc_Either⟩
      F_Try_init := F_Try_init
      B_Try_init := F_Try_init.binds (ps := ["self", "parts", "name", "slot", "others"]) fun _ _ _ _ _ _ us hl => match us, hl with | [_, _, _, _, _], _ => rfl
      K_Try := ⟨mk_Try, a_Try_init, i_Try_init, kc_Try⟩
      F_Throw_init := F_Throw_init
      B_Throw_init := F_Throw_init.binds (ps := ["self", "name", "slot"]) fun _ _ _ _ _ _ us hl => match us, hl with | [_, _, _], _ => rfl
      K_Throw := ⟨mk_Throw, a_Throw_init, i_Throw_init, kc_Throw⟩
      F_plain_row := F_plain_row
      B_plain_row := F_plain_row.binds (ps := ["part"]) fun _ _ _ _ _ _ us hl => match us, hl with | [_], _ => rfl
      m_plain_row := PySem.W.mg_of X G a_plain_row
      F_two_sides := F_two_sides
      B_two_sides := F_two_sides.binds (ps := ["head", "part", "first", "closing"]) fun _ _ _ _ _ _ us hl => match us, hl with | [_, _, _, _], _ => rfl
      m_two_sides := PySem.W.mg_of X G a_two_sides
      F_part_rows := F_part_rows
      B_part_rows := F_part_rows.binds (ps := ["part", "first"]) fun _ _ _ _ _ _ us hl => match us, hl with | [_, _], _ => rfl
      m_part_rows := PySem.W.mg_of X G a_part_rows
      F_rows_from := F_rows_from
      B_rows_from := F_rows_from.binds (ps := ["parts", "first"]) fun _ _ _ _ _ _ us hl => match us, hl with | [_, _], _ => rfl
      m_rows_from := PySem.W.mg_of X G a_rows_from
      F_rows_of := F_rows_of
      B_rows_of := F_rows_of.binds (ps := ["deed"]) fun _ _ _ _ _ _ us hl => match us, hl with | [_], _ => rfl
      m_rows_of := PySem.W.mg_of X G a_rows_of
      F_l_mixed := F_l_mixed
      B_l_mixed := F_l_mixed.binds (ps := ["_law_cell"]) fun _ _ _ _ _ _ us hl => match us, hl with | [_], _ => rfl
      m_l_mixed := PySem.W.mg_of X G a_l_mixed
      F_l_wide := F_l_wide
      B_l_wide := F_l_wide.binds (ps := ["_law_cell"]) fun _ _ _ _ _ _ us hl => match us, hl with | [_], _ => rfl
      m_l_wide := PySem.W.mg_of X G a_l_wide
      F_l_names := F_l_names
      B_l_names := F_l_names.binds (ps := ["_law_cell"]) fun _ _ _ _ _ _ us hl => match us, hl with | [_], _ => rfl
      m_l_names := PySem.W.mg_of X G a_l_names
      F_l_plain := F_l_plain
      B_l_plain := F_l_plain.binds (ps := ["_law_mixed_here", "_law_cell"]) fun _ _ _ _ _ _ us hl => match us, hl with | [_, _], _ => rfl
      m_l_plain := PySem.W.mg_of X G a_l_plain
      F_l_sided := F_l_sided
      B_l_sided := F_l_sided.binds (ps := ["_law_mixed_here", "_law_one", "_law_other", "_law_names_here"]) fun _ _ _ _ _ _ us hl => match us, hl with | [_, _, _, _], _ => rfl
      m_l_sided := PySem.W.mg_of X G a_l_sided
      F_l_tree := F_l_tree
      B_l_tree := F_l_tree.binds (ps := ["_law_cells", "_law_depth", "_law_names_here"]) fun _ _ _ _ _ _ us hl => match us, hl with | [_, _, _], _ => rfl
      m_l_tree := PySem.W.mg_of X G a_l_tree
      F_l_made := F_l_made
      B_l_made := F_l_made.binds (ps := ["_law_tree_here"]) fun _ _ _ _ _ _ us hl => match us, hl with | [_], _ => rfl
      m_l_made := PySem.W.mg_of X G a_l_made
      F_l_ahead := F_l_ahead
      B_l_ahead := F_l_ahead.binds (ps := ["_law_rows"]) fun _ _ _ _ _ _ us hl => match us, hl with | [_], _ => rfl
      m_l_ahead := PySem.W.mg_of X G a_l_ahead
      F_l_one_back := F_l_one_back
      B_l_one_back := F_l_one_back.binds (ps := ["_law_row"]) fun _ _ _ _ _ _ us hl => match us, hl with | [_], _ => rfl
      m_l_one_back := PySem.W.mg_of X G a_l_one_back
      F_l_joined := F_l_joined
      B_l_joined := F_l_joined.binds (ps := ["_law_row", "_law_one", "_law_other"]) fun _ _ _ _ _ _ us hl => match us, hl with | [_, _, _], _ => rfl
      m_l_joined := PySem.W.mg_of X G a_l_joined
      F_l_back := F_l_back
      B_l_back := F_l_back.binds (ps := ["_law_rows", "_law_at", "_law_end"]) fun _ _ _ _ _ _ us hl => match us, hl with | [_, _, _], _ => rfl
      m_l_back := PySem.W.mg_of X G a_l_back
      F_law := F_law
      B_law := F_law.binds (ps := ["_law_script"]) fun _ _ _ _ _ _ us hl => match us, hl with | [_], _ => rfl
      m_law := PySem.W.mg_of X G a_law
      b_bool := PySem.W.mg_none_of X G b_bool
      b_int := PySem.W.mg_none_of X G b_int
      b_isinstance := PySem.W.mg_none_of X G b_isinstance
      b_len := PySem.W.mg_none_of X G b_len
      b_list := PySem.W.mg_none_of X G b_list
      b_max := PySem.W.mg_none_of X G b_max
      b_range := PySem.W.mg_none_of X G b_range
      b_sum := PySem.W.mg_none_of X G b_sum
      b_tuple := PySem.W.mg_none_of X G b_tuple
      g_Let := PySem.W.mg_of X G g_Let
      g_Reckon := PySem.W.mg_of X G g_Reckon
      g_Take := PySem.W.mg_of X G g_Take
      g_Put := PySem.W.mg_of X G g_Put
      g_If := PySem.W.mg_of X G g_If
      g_Either := PySem.W.mg_of X G g_Either
      g_Try := PySem.W.mg_of X G g_Try
      g_Throw := PySem.W.mg_of X G g_Throw
      g_Wait := PySem.W.mg_of X G g_Wait
      MO_Wait := ⟨mk_Wait, in_Wait, kc_Wait⟩
      t_Parts := { cl := fun k => (by cases k; exact ⟨pg_Let, hd_Let, po_Let, sa_Let⟩; exact ⟨pg_Reckon, hd_Reckon, po_Reckon, sa_Reckon⟩; exact ⟨pg_Take, hd_Take, po_Take, sa_Take⟩; exact ⟨pg_Put, hd_Put, po_Put, sa_Put⟩; exact ⟨pg_If, hd_If, po_If, sa_If⟩; exact ⟨pg_Either, hd_Either, po_Either, sa_Either⟩; exact ⟨pg_Try, hd_Try, po_Try, sa_Try⟩; exact ⟨pg_Throw, hd_Throw, po_Throw, sa_Throw⟩; exact ⟨pg_Wait, hd_Wait, po_Wait, sa_Wait⟩), cc := fun k => (by cases k; exact kcc_Let; exact kcc_Reckon; exact kcc_Take; exact kcc_Put; exact kcc_If; exact kcc_Either; exact kcc_Try; exact kcc_Throw; exact kcc_Wait), mo := fun k => (by cases k; exact kmo_Let; exact kmo_Reckon; exact kmo_Take; exact kmo_Put; exact kmo_If; exact kmo_Either; exact kmo_Try; exact kmo_Throw; exact kmo_Wait), gs := kgs, tk := ktk, kit := fun k j hj => (by cases k <;> cases j; exact kit_Let_Let; exact kit_Let_Reckon; exact kit_Let_Take; exact kit_Let_Put; exact kit_Let_If; exact kit_Let_Either; exact kit_Let_Try; exact kit_Let_Throw; exact absurd rfl hj; exact kit_Reckon_Let; exact kit_Reckon_Reckon; exact kit_Reckon_Take; exact kit_Reckon_Put; exact kit_Reckon_If; exact kit_Reckon_Either; exact kit_Reckon_Try; exact kit_Reckon_Throw; exact absurd rfl hj; exact kit_Take_Let; exact kit_Take_Reckon; exact kit_Take_Take; exact kit_Take_Put; exact kit_Take_If; exact kit_Take_Either; exact kit_Take_Try; exact kit_Take_Throw; exact absurd rfl hj; exact kit_Put_Let; exact kit_Put_Reckon; exact kit_Put_Take; exact kit_Put_Put; exact kit_Put_If; exact kit_Put_Either; exact kit_Put_Try; exact kit_Put_Throw; exact absurd rfl hj; exact kit_If_Let; exact kit_If_Reckon; exact kit_If_Take; exact kit_If_Put; exact kit_If_If; exact kit_If_Either; exact kit_If_Try; exact kit_If_Throw; exact absurd rfl hj; exact kit_Either_Let; exact kit_Either_Reckon; exact kit_Either_Take; exact kit_Either_Put; exact kit_Either_If; exact kit_Either_Either; exact kit_Either_Try; exact kit_Either_Throw; exact absurd rfl hj; exact kit_Try_Let; exact kit_Try_Reckon; exact kit_Try_Take; exact kit_Try_Put; exact kit_Try_If; exact kit_Try_Either; exact kit_Try_Try; exact kit_Try_Throw; exact absurd rfl hj; exact kit_Throw_Let; exact kit_Throw_Reckon; exact kit_Throw_Take; exact kit_Throw_Put; exact kit_Throw_If; exact kit_Throw_Either; exact kit_Throw_Try; exact kit_Throw_Throw; exact absurd rfl hj; exact kit_Wait_Let; exact kit_Wait_Reckon; exact kit_Wait_Take; exact kit_Wait_Put; exact kit_Wait_If; exact kit_Wait_Either; exact kit_Wait_Try; exact kit_Wait_Throw; exact absurd rfl hj), na := fun k n h => (by cases k; (simp only [atK, List.mem_cons, List.not_mem_nil, or_false] at h; rcases h with rfl | rfl; exact nslot_Let; exact nnumber_Let); (simp only [atK, List.mem_cons, List.not_mem_nil, or_false] at h; rcases h with rfl | rfl | rfl | rfl; exact nword_Reckon; exact nslot_Reckon; exact none_Reckon; exact nother_Reckon); (simp only [atK, List.mem_cons, List.not_mem_nil, or_false] at h; rcases h with rfl | rfl; exact nslot_Take; exact nplace_Take); (simp only [atK, List.mem_cons, List.not_mem_nil, or_false] at h; rcases h with rfl | rfl; exact nplace_Put; exact nslot_Put); (simp only [atK, List.mem_cons, List.not_mem_nil, or_false] at h; rcases h with rfl | rfl | rfl; exact nslot_If; exact nparts_If; exact nothers_If); (simp only [atK, List.mem_cons, List.not_mem_nil, or_false] at h; rcases h with rfl | rfl; exact nparts_Either; exact nothers_Either); (simp only [atK, List.mem_cons, List.not_mem_nil, or_false] at h; rcases h with rfl | rfl | rfl | rfl; exact nparts_Try; exact nname_Try; exact nslot_Try; exact nothers_Try); (simp only [atK, List.mem_cons, List.not_mem_nil, or_false] at h; rcases h with rfl | rfl; exact nname_Throw; exact nslot_Throw); (simp only [atK, List.mem_cons, List.not_mem_nil, or_false] at h; done)) } }
  exact ⟨PySem.W.fnOf "law" "law" (defArgs s_law) (defBody s_law) (defScope s_law) .none kV_law dc_law pm_law an_law cd_law ct_law, fun s v => .of_eq rfl, fun base _ _ => ok_law T⟩
theorem walk {l : PySem.W.OpenLaw} {q : Program} {loose : List Str} {XP : (Str → Option Value) → Heap → Prop} {YP : World → Heap → Prop} {d : DefRec} {K : Params → PySem.W.Frag} (hn : l.most = some 63) (hdf : d.params.defaults = [])
    (hY : ∀ (w : World) (h : Heap), YP w h → (K w.params).In h)
    (F : ∀ (w : World) (mg : Str → Option Value) (fa : Addr) (h : Heap), (K w.params).In h → h.Ns mainGlobals mg → mg d.name = some (.ref fa) →
      ∃ fd : FuncData, (∀ (s : Shared) (u : Value), BindsTo s fd ⟨[u], []⟩ [("_law_script", u)]) ∧ ∀ base : Heap, (K w.params).In base → base.Ns mainGlobals mg → FnOk l.prog w (K w.params) mg base CX0 43 fa fd ["_law_script"] (spLaw (K w.params))) :
    PySem.W.WalkO q loose XP YP l.row.toRowW d [] (fun f vs => PySem.call f vs) :=
  L2.walk_of (n := 63) (k := 43) (x := "_law_script") (CX := fun _ => CX0) (sp := fun w => spLaw (K w.params)) hn (by decide) hdf ⟨rfl, by decide, by decide⟩ hY F (fun _ _ a ns hl _ hS => ⟨a, ns, rfl, hS, hl, fun _ => rfl⟩) fun _ _ _ _ _ z => z
end Row
open PySem PySem.W PyProof.Rows
set_option maxRecDepth 100000 in
set_option maxHeartbeats 0 in
theorem PySem.Challenge.cw_retryhall_k13_whole_rows_forward_holds : PySem.Challenge.rw_retryhall_k13_whole_rows_forward.Holds := by
  w_on; o_law; k_head; (case hw => w_witness2)
  k_fill
  refine Row.walk (l := PySem.Challenge.rw_retryhall_k13_whole_rows_forward) rfl rfl (fun w h Y => PySem.W.kIn_of Y) ?F
  case F =>
    intro w mg fa h KX G hmg
    refine' Row.all_mk KX G hmg ?a_Let_init ?i_Let_init ?l_Let_init ?cc_Let_init ?kk_Let_init ?a_Reckon_init ?i_Reckon_init ?l_Reckon_init ?cc_Reckon_init ?kk_Reckon_init ?a_Take_init ?i_Take_init ?l_Take_init ?cc_Take_init ?kk_Take_init ?a_Put_init ?i_Put_init ?l_Put_init ?cc_Put_init ?kk_Put_init ?a_If_init ?i_If_init ?l_If_init ?cc_If_init ?kk_If_init ?a_Either_init ?i_Either_init ?l_Either_init ?cc_Either_init ?kk_Either_init ?a_Try_init ?i_Try_init ?l_Try_init ?cc_Try_init ?kk_Try_init ?a_Throw_init ?i_Throw_init ?l_Throw_init ?cc_Throw_init ?kk_Throw_init ?a_plain_row ?l_plain_row ?cc_plain_row ?kk_plain_row ?a_two_sides ?l_two_sides ?cc_two_sides ?kk_two_sides ?a_part_rows ?l_part_rows ?cc_part_rows ?kk_part_rows ?a_rows_from ?l_rows_from ?cc_rows_from ?kk_rows_from ?a_rows_of ?l_rows_of ?cc_rows_of ?kk_rows_of ?a_l_mixed ?l_l_mixed ?cc_l_mixed ?kk_l_mixed ?a_l_wide ?l_l_wide ?cc_l_wide ?kk_l_wide ?a_l_names ?l_l_names ?cc_l_names ?kk_l_names ?a_l_plain ?l_l_plain ?cc_l_plain ?kk_l_plain ?a_l_sided ?l_l_sided ?cc_l_sided ?kk_l_sided ?a_l_tree ?l_l_tree ?cc_l_tree ?kk_l_tree ?a_l_made ?l_l_made ?cc_l_made ?kk_l_made ?a_l_ahead ?l_l_ahead ?cc_l_ahead ?kk_l_ahead ?a_l_one_back ?l_l_one_back ?cc_l_one_back ?kk_l_one_back ?a_l_joined ?l_l_joined ?cc_l_joined ?kk_l_joined ?a_l_back ?l_l_back ?cc_l_back ?kk_l_back ?a_law ?l_law ?cc_law ?kk_law ?b_bool ?b_int ?b_isinstance ?b_len ?b_list ?b_max ?b_range ?b_sum ?b_tuple ?g_Let ?pg_Let ?hd_Let ?po_Let ?sa_Let ?mk_Let ?kc_Let ?g_Reckon ?pg_Reckon ?hd_Reckon ?po_Reckon ?sa_Reckon ?mk_Reckon ?kc_Reckon ?g_Take ?pg_Take ?hd_Take ?po_Take ?sa_Take ?mk_Take ?kc_Take ?g_Put ?pg_Put ?hd_Put ?po_Put ?sa_Put ?mk_Put ?kc_Put ?g_If ?pg_If ?hd_If ?po_If ?sa_If ?mk_If ?kc_If ?g_Either ?pg_Either ?hd_Either ?po_Either ?sa_Either ?mk_Either ?kc_Either ?g_Try ?pg_Try ?hd_Try ?po_Try ?sa_Try ?mk_Try ?kc_Try ?g_Throw ?pg_Throw ?hd_Throw ?po_Throw ?sa_Throw ?mk_Throw ?kc_Throw ?g_Wait ?pg_Wait ?hd_Wait ?po_Wait ?sa_Wait ?mk_Wait ?kc_Wait ?in_Wait ?kgs ?ktk ?kcc_Let ?kmo_Let ?nslot_Let ?nnumber_Let ?kit_Let_Let ?kit_Let_Reckon ?kit_Let_Take ?kit_Let_Put ?kit_Let_If ?kit_Let_Either ?kit_Let_Try ?kit_Let_Throw ?kcc_Reckon ?kmo_Reckon ?nword_Reckon ?nslot_Reckon ?none_Reckon ?nother_Reckon ?kit_Reckon_Let ?kit_Reckon_Reckon ?kit_Reckon_Take ?kit_Reckon_Put ?kit_Reckon_If ?kit_Reckon_Either ?kit_Reckon_Try ?kit_Reckon_Throw ?kcc_Take ?kmo_Take ?nslot_Take ?nplace_Take ?kit_Take_Let ?kit_Take_Reckon ?kit_Take_Take ?kit_Take_Put ?kit_Take_If ?kit_Take_Either ?kit_Take_Try ?kit_Take_Throw ?kcc_Put ?kmo_Put ?nplace_Put ?nslot_Put ?kit_Put_Let ?kit_Put_Reckon ?kit_Put_Take ?kit_Put_Put ?kit_Put_If ?kit_Put_Either ?kit_Put_Try ?kit_Put_Throw ?kcc_If ?kmo_If ?nslot_If ?nparts_If ?nothers_If ?kit_If_Let ?kit_If_Reckon ?kit_If_Take ?kit_If_Put ?kit_If_If ?kit_If_Either ?kit_If_Try ?kit_If_Throw ?kcc_Either ?kmo_Either ?nparts_Either ?nothers_Either ?kit_Either_Let ?kit_Either_Reckon ?kit_Either_Take ?kit_Either_Put ?kit_Either_If ?kit_Either_Either ?kit_Either_Try ?kit_Either_Throw ?kcc_Try ?kmo_Try ?nparts_Try ?nname_Try ?nslot_Try ?nothers_Try ?kit_Try_Let ?kit_Try_Reckon ?kit_Try_Take ?kit_Try_Put ?kit_Try_If ?kit_Try_Either ?kit_Try_Try ?kit_Try_Throw ?kcc_Throw ?kmo_Throw ?nname_Throw ?nslot_Throw ?kit_Throw_Let ?kit_Throw_Reckon ?kit_Throw_Take ?kit_Throw_Put ?kit_Throw_If ?kit_Throw_Either ?kit_Throw_Try ?kit_Throw_Throw ?kcc_Wait ?kmo_Wait ?kit_Wait_Let ?kit_Wait_Reckon ?kit_Wait_Take ?kit_Wait_Put ?kit_Wait_If ?kit_Wait_Either ?kit_Wait_Try ?kit_Wait_Throw
    (case g_Let => k_is)
    (case g_Reckon => k_is)
    (case g_Take => k_is)
    (case g_Put => k_is)
    (case g_If => k_is)
    (case g_Either => k_is)
    (case g_Try => k_is)
    (case g_Throw => k_is)
    (case g_Wait => k_is)
    (case a_Let_init => k_is)
    (case i_Let_init => k_is)
    (case l_Let_init => k_is)
    (case cc_Let_init => k_is)
    (case kk_Let_init => k_is)
    (case a_Reckon_init => k_is)
    (case i_Reckon_init => k_is)
    (case l_Reckon_init => k_is)
    (case cc_Reckon_init => k_is)
    (case kk_Reckon_init => k_is)
    (case a_Take_init => k_is)
    (case i_Take_init => k_is)
    (case l_Take_init => k_is)
    (case cc_Take_init => k_is)
    (case kk_Take_init => k_is)
    (case a_Put_init => k_is)
    (case i_Put_init => k_is)
    (case l_Put_init => k_is)
    (case cc_Put_init => k_is)
    (case kk_Put_init => k_is)
    (case a_If_init => k_is)
    (case i_If_init => k_is)
    (case l_If_init => k_is)
    (case cc_If_init => k_is)
    (case kk_If_init => k_is)
    (case a_Either_init => k_is)
    (case i_Either_init => k_is)
    (case l_Either_init => k_is)
    (case cc_Either_init => k_is)
    (case kk_Either_init => k_is)
    (case a_Try_init => k_is)
    (case i_Try_init => k_is)
    (case l_Try_init => k_is)
    (case cc_Try_init => k_is)
    (case kk_Try_init => k_is)
    (case a_Throw_init => k_is)
    (case i_Throw_init => k_is)
    (case l_Throw_init => k_is)
    (case cc_Throw_init => k_is)
    (case kk_Throw_init => k_is)
    (case a_plain_row => k_is)
    (case l_plain_row => k_is)
    (case cc_plain_row => k_is)
    (case kk_plain_row => k_is)
    (case a_two_sides => k_is)
    (case l_two_sides => k_is)
    (case cc_two_sides => k_is)
    (case kk_two_sides => k_is)
    (case a_part_rows => k_is)
    (case l_part_rows => k_is)
    (case cc_part_rows => k_is)
    (case kk_part_rows => k_is)
    (case a_rows_from => k_is)
    (case l_rows_from => k_is)
    (case cc_rows_from => k_is)
    (case kk_rows_from => k_is)
    (case a_rows_of => k_is)
    (case l_rows_of => k_is)
    (case cc_rows_of => k_is)
    (case kk_rows_of => k_is)
    (case a_l_mixed => k_is)
    (case l_l_mixed => k_is)
    (case cc_l_mixed => k_is)
    (case kk_l_mixed => k_is)
    (case a_l_wide => k_is)
    (case l_l_wide => k_is)
    (case cc_l_wide => k_is)
    (case kk_l_wide => k_is)
    (case a_l_names => k_is)
    (case l_l_names => k_is)
    (case cc_l_names => k_is)
    (case kk_l_names => k_is)
    (case a_l_plain => k_is)
    (case l_l_plain => k_is)
    (case cc_l_plain => k_is)
    (case kk_l_plain => k_is)
    (case a_l_sided => k_is)
    (case l_l_sided => k_is)
    (case cc_l_sided => k_is)
    (case kk_l_sided => k_is)
    (case a_l_tree => k_is)
    (case l_l_tree => k_is)
    (case cc_l_tree => k_is)
    (case kk_l_tree => k_is)
    (case a_l_made => k_is)
    (case l_l_made => k_is)
    (case cc_l_made => k_is)
    (case kk_l_made => k_is)
    (case a_l_ahead => k_is)
    (case l_l_ahead => k_is)
    (case cc_l_ahead => k_is)
    (case kk_l_ahead => k_is)
    (case a_l_one_back => k_is)
    (case l_l_one_back => k_is)
    (case cc_l_one_back => k_is)
    (case kk_l_one_back => k_is)
    (case a_l_joined => k_is)
    (case l_l_joined => k_is)
    (case cc_l_joined => k_is)
    (case kk_l_joined => k_is)
    (case a_l_back => k_is)
    (case l_l_back => k_is)
    (case cc_l_back => k_is)
    (case kk_l_back => k_is)
    (case a_law => k_is)
    (case l_law => k_is)
    (case cc_law => k_is)
    (case kk_law => k_is)
    (case b_bool => k_is)
    (case b_int => k_is)
    (case b_isinstance => k_is)
    (case b_len => k_is)
    (case b_list => k_is)
    (case b_max => k_is)
    (case b_range => k_is)
    (case b_sum => k_is)
    (case b_tuple => k_is)
    (case pg_Let => k_is)
    (case hd_Let => k_is)
    (case po_Let => k_is)
    (case sa_Let => k_is)
    (case mk_Let => k_is)
    (case kc_Let => k_is)
    (case pg_Reckon => k_is)
    (case hd_Reckon => k_is)
    (case po_Reckon => k_is)
    (case sa_Reckon => k_is)
    (case mk_Reckon => k_is)
    (case kc_Reckon => k_is)
    (case pg_Take => k_is)
    (case hd_Take => k_is)
    (case po_Take => k_is)
    (case sa_Take => k_is)
    (case mk_Take => k_is)
    (case kc_Take => k_is)
    (case pg_Put => k_is)
    (case hd_Put => k_is)
    (case po_Put => k_is)
    (case sa_Put => k_is)
    (case mk_Put => k_is)
    (case kc_Put => k_is)
    (case pg_If => k_is)
    (case hd_If => k_is)
    (case po_If => k_is)
    (case sa_If => k_is)
    (case mk_If => k_is)
    (case kc_If => k_is)
    (case pg_Either => k_is)
    (case hd_Either => k_is)
    (case po_Either => k_is)
    (case sa_Either => k_is)
    (case mk_Either => k_is)
    (case kc_Either => k_is)
    (case pg_Try => k_is)
    (case hd_Try => k_is)
    (case po_Try => k_is)
    (case sa_Try => k_is)
    (case mk_Try => k_is)
    (case kc_Try => k_is)
    (case pg_Throw => k_is)
    (case hd_Throw => k_is)
    (case po_Throw => k_is)
    (case sa_Throw => k_is)
    (case mk_Throw => k_is)
    (case kc_Throw => k_is)
    (case pg_Wait => k_is)
    (case hd_Wait => k_is)
    (case po_Wait => k_is)
    (case sa_Wait => k_is)
    (case mk_Wait => k_is)
    (case kc_Wait => k_is)
    (case in_Wait => k_is)
    (case kgs => k_is)
    (case ktk => k_is)
    (case kcc_Let => k_is)
    (case kmo_Let => k_is)
    (case nslot_Let => k_is)
    (case nnumber_Let => k_is)
    (case kit_Let_Let => kit_is)
    (case kit_Let_Reckon => kit_is)
    (case kit_Let_Take => kit_is)
    (case kit_Let_Put => kit_is)
    (case kit_Let_If => kit_is)
    (case kit_Let_Either => kit_is)
    (case kit_Let_Try => kit_is)
    (case kit_Let_Throw => kit_is)
    (case kcc_Reckon => k_is)
    (case kmo_Reckon => k_is)
    (case nword_Reckon => k_is)
    (case nslot_Reckon => k_is)
    (case none_Reckon => k_is)
    (case nother_Reckon => k_is)
    (case kit_Reckon_Let => kit_is)
    (case kit_Reckon_Reckon => kit_is)
    (case kit_Reckon_Take => kit_is)
    (case kit_Reckon_Put => kit_is)
    (case kit_Reckon_If => kit_is)
    (case kit_Reckon_Either => kit_is)
    (case kit_Reckon_Try => kit_is)
    (case kit_Reckon_Throw => kit_is)
    (case kcc_Take => k_is)
    (case kmo_Take => k_is)
    (case nslot_Take => k_is)
    (case nplace_Take => k_is)
    (case kit_Take_Let => kit_is)
    (case kit_Take_Reckon => kit_is)
    (case kit_Take_Take => kit_is)
    (case kit_Take_Put => kit_is)
    (case kit_Take_If => kit_is)
    (case kit_Take_Either => kit_is)
    (case kit_Take_Try => kit_is)
    (case kit_Take_Throw => kit_is)
    (case kcc_Put => k_is)
    (case kmo_Put => k_is)
    (case nplace_Put => k_is)
    (case nslot_Put => k_is)
    (case kit_Put_Let => kit_is)
    (case kit_Put_Reckon => kit_is)
    (case kit_Put_Take => kit_is)
    (case kit_Put_Put => kit_is)
    (case kit_Put_If => kit_is)
    (case kit_Put_Either => kit_is)
    (case kit_Put_Try => kit_is)
    (case kit_Put_Throw => kit_is)
    (case kcc_If => k_is)
    (case kmo_If => k_is)
    (case nslot_If => k_is)
    (case nparts_If => k_is)
    (case nothers_If => k_is)
    (case kit_If_Let => kit_is)
    (case kit_If_Reckon => kit_is)
    (case kit_If_Take => kit_is)
    (case kit_If_Put => kit_is)
    (case kit_If_If => kit_is)
    (case kit_If_Either => kit_is)
    (case kit_If_Try => kit_is)
    (case kit_If_Throw => kit_is)
    (case kcc_Either => k_is)
    (case kmo_Either => k_is)
    (case nparts_Either => k_is)
    (case nothers_Either => k_is)
    (case kit_Either_Let => kit_is)
    (case kit_Either_Reckon => kit_is)
    (case kit_Either_Take => kit_is)
    (case kit_Either_Put => kit_is)
    (case kit_Either_If => kit_is)
    (case kit_Either_Either => kit_is)
    (case kit_Either_Try => kit_is)
    (case kit_Either_Throw => kit_is)
    (case kcc_Try => k_is)
    (case kmo_Try => k_is)
    (case nparts_Try => k_is)
    (case nname_Try => k_is)
    (case nslot_Try => k_is)
    (case nothers_Try => k_is)
    (case kit_Try_Let => kit_is)
    (case kit_Try_Reckon => kit_is)
    (case kit_Try_Take => kit_is)
    (case kit_Try_Put => kit_is)
    (case kit_Try_If => kit_is)
    (case kit_Try_Either => kit_is)
    (case kit_Try_Try => kit_is)
    (case kit_Try_Throw => kit_is)
    (case kcc_Throw => k_is)
    (case kmo_Throw => k_is)
    (case nname_Throw => k_is)
    (case nslot_Throw => k_is)
    (case kit_Throw_Let => kit_is)
    (case kit_Throw_Reckon => kit_is)
    (case kit_Throw_Take => kit_is)
    (case kit_Throw_Put => kit_is)
    (case kit_Throw_If => kit_is)
    (case kit_Throw_Either => kit_is)
    (case kit_Throw_Try => kit_is)
    (case kit_Throw_Throw => kit_is)
    (case kcc_Wait => k_is)
    (case kmo_Wait => k_is)
    (case kit_Wait_Let => kit_is)
    (case kit_Wait_Reckon => kit_is)
    (case kit_Wait_Take => kit_is)
    (case kit_Wait_Put => kit_is)
    (case kit_Wait_If => kit_is)
    (case kit_Wait_Either => kit_is)
    (case kit_Wait_Try => kit_is)
    (case kit_Wait_Throw => kit_is)
#print axioms PySem.Challenge.cw_retryhall_k13_whole_rows_forward_holds

