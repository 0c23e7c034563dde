import PyProof.Rows.All
import Wide.All
import OpenK.AllK
import Wide.FinOn
import HandS.ForMost
import HandS.Exc
import HandS.TryOnly
import HandS.ExcOwn
import HandS.WordsExc
import HandS.Evl
import HandS.Steps
import HandS.More
import HandS.IsInst
import HandS.Codes
import HandS.Conv
import HandS.Walk
import HandS.Zip
import HandS.Replace
import KE.KSortedM
import PySem.Challenge.RW_retryhall_k14_log_layers
set_option Elab.async false
set_option linter.all false
set_option maxRecDepth 100000
set_option maxHeartbeats 2000000
namespace RT
open PySem L2
abbrev Ex := Evl.Ex
structure Ad where
  K : PySem.W.Frag
  cPart : Addr := 0
  cLet : Addr := 0
  cReckon : Addr := 0
  cTake : Addr := 0
  cPut : Addr := 0
  cIf : Addr := 0
  cEither : Addr := 0
  cTry : Addr := 0
  cThrow : Addr := 0
  cWait : Addr := 0
  cLog : Addr := 0
  cDoer : Addr := 0
  cHand : Addr := 0
  cHall : Addr := 0
  cDesk : Addr := 0
  cHallError : Addr := 0
  cNoDeed : Addr := 0
  cNoBoxes : Addr := 0
  cNoHands : Addr := 0
  cNoHand : Addr := 0
  cNoRow : Addr := 0
  aSUMS : Addr := 0
def spLaw (K : PySem.W.Frag) : Sp := fun vs H Q _ => ∃ (a : Addr) (ns : List Int), vs = [.ref a] ∧ SqL K H a (ns.map V.int) ∧ ns.length ≤ 63 ∧ ∀ H', Q (.bl true) H'
@[irreducible] def dB (p : Prop) [Decidable p] : Bool := decide p
theorem dB_eq (p : Prop) [Decidable p] : dB p = decide p := by unfold dB; rfl
theorem dB_t {p : Prop} [Decidable p] (h : p) : dB p = true := by rw [dB_eq]; exact decide_eq_true h
theorem dB_f {p : Prop} [Decidable p] (h : ¬ p) : dB p = false := by rw [dB_eq]; exact decide_eq_false h
theorem dB_congr {p q : Prop} [Decidable p] [Decidable q] (h : p ↔ q) : dB p = dB q := by rw [dB_eq, dB_eq]; exact decide_eq_decide.mpr h
theorem of_dB {p : Prop} [Decidable p] (h : dB p = true) : p := by rw [dB_eq] at h; exact of_decide_eq_true h
theorem of_dB_f {p : Prop} [Decidable p] (h : dB p = false) : ¬ p := by rw [dB_eq] at h; exact of_decide_eq_false h
theorem nB_t {p : Prop} [Decidable p] (h : ¬ p) : (!dB p) = true := by rw [dB_f h]; rfl
theorem nB_f {p : Prop} [Decidable p] (h : p) : (!dB p) = false := by rw [dB_t h]; rfl
theorem dB_iff {p : Prop} [Decidable p] : dB p = true ↔ p := ⟨of_dB, dB_t⟩
theorem dB_iff_f {p : Prop} [Decidable p] : dB p = false ↔ ¬ p := ⟨of_dB_f, dB_f⟩
abbrev aAdd := tOp (rI0 fun i j => V.int (i + j))
abbrev aSub := tOp (rI0 fun i j => V.int (i - j))
abbrev aMul := tOp (rI CMul fun i j => V.int (i * j))
abbrev aMod := tOp (rI (fun _ j => 0 < j) fun i j => V.int (i % j))
abbrev aDiv := tOp (rI CDiv fun i j => V.int (i / j))
abbrev aPow := tOp (rI CPow fun i j => V.int (i ^ j.toNat))
abbrev aNeg := tUn (rU fun i => V.int (-i))
def rAddS : R2 := fun x y H Q => ∃ i j, x = .str i ∧ y = .str j ∧ i.length + j.length ≤ sizeLine ∧ Q (.str (i ++ j)) H
abbrev aAddS := tOp rAddS
abbrev aCat := tOp rCat
abbrev aCatT (K : PySem.W.Frag) := tOp (rCatT K)
abbrev aRep := tOp rRep
def rLt : R2 := rI0 fun i j => V.bl (dB (i < j))
def rLe : R2 := rI0 fun i j => V.bl (dB (i ≤ j))
def rGt : R2 := rI0 fun i j => V.bl (dB (j < i))
def rGe : R2 := rI0 fun i j => V.bl (dB (j ≤ i))
def rLtS : R2 := fun x y H Q => ∃ i j, x = .str i ∧ y = .str j ∧ Q (.bl (dB (i.cps.toList < j.cps.toList))) H
def rLeS : R2 := fun x y H Q => ∃ i j, x = .str i ∧ y = .str j ∧ Q (.bl (!dB (j.cps.toList < i.cps.toList))) H
def rGtS : R2 := fun x y H Q => ∃ i j, x = .str i ∧ y = .str j ∧ Q (.bl (dB (j.cps.toList < i.cps.toList))) H
def rGeS : R2 := fun x y H Q => ∃ i j, x = .str i ∧ y = .str j ∧ Q (.bl (!dB (i.cps.toList < j.cps.toList))) H
def rLenStr : List V → Hp → VK → Prop := fun xs H Q => ∃ x, xs = [.str x] ∧ x.length ≤ sizeLine ∧ Q (.int (x.length : Nat)) H
def rLenD : List V → Hp → VK → Prop := fun xs H Q => ∃ a kvs, xs = [V.ref a] ∧ H a = some (.dK kvs) ∧ Q (.int kvs.length) H
def rIntS : List V → Hp → VK → Prop := fun xs H Q => ∃ a n, xs = [.str a] ∧ PySem.intText? a = some n ∧ a.length ≤ 640 ∧ Q (.int n) H
def rInt1 : List V → Hp → VK → Prop := fun xs H Q => (∃ i, xs = [.int i] ∧ Q (.int i) H) ∨ ∃ k, xs = [.bl k] ∧ Q (.int (if k then 1 else 0)) H
def rStrI : List V → Hp → VK → Prop := fun xs H Q => ∃ i, xs = [.int i] ∧ i.natAbs.log2 < 1920 ∧ Q (.str (toString i)) H
def rMin2 : List V → Hp → VK → Prop := fun xs H Q => ∃ i j, xs = [.int i, .int j] ∧ Q (.int (if j < i then j else i)) H
def rListOf (K : PySem.W.Frag) : List V → Hp → VK → Prop := fun xs H Q => ∃ p ys, xs = [.ref p] ∧ (SqL K H p ys ∨ SqT K H p ys) ∧ ∀ l, H l = none → Q (.ref l) (upd H l (.lst ys))
def rTupleOf (K : PySem.W.Frag) : List V → Hp → VK → Prop := fun xs H Q => ∃ p ys, xs = [.ref p] ∧ ((SqL K H p ys ∧ ∀ l, H l = none → Q (.ref l) (upd H l (.tup ys))) ∨ (SqT K H p ys ∧ Q (.ref p) H))
def rSortedD : List V → Hp → VK → Prop := fun xs H Q => ∃ (a : Addr) (kvs : List (Key × V)) (ks : List Int), xs = [.ref a] ∧ Rd H a (.dK kvs) ∧ kvs.map (·.1) = ks.map Sum.inl ∧ ks.length < 64 ∧
    ∀ (ys : List Int) (p : Addr), ys.Perm ks → ys.Pairwise (· ≤ ·) → H p = none → Q (.ref p) (upd H p (.lst (ys.map V.int)))
def rJoin (K : PySem.W.Frag) : V → List V → Hp → VK → Prop := (fun x xs H Q => ∃ a p, ∃ ys : List Str, x = .str a ∧ xs = [.ref p] ∧ (SqL K H p (ys.map V.str) ∨ SqT K H p (ys.map V.str)) ∧ (ys.map (·.length)).sum + ys.length * a.length ≤ 16777216 ∧ Q (.str (Txt.join a ys)) H)
abbrev aJoin (K : PySem.W.Frag) := tM1 (rJoin K)
def rSplit : V → List V → Hp → VK → Prop := (fun x xs H Q => ∃ a b, x = .str a ∧ xs = [.str b] ∧ (b.length == 0) = false ∧ a.length + 2 ≤ sizeLine ∧ rNewStrs (Txt.split a b) H Q)
abbrev aSplit := tM1 rSplit
def rIndexS : V → List V → Hp → VK → Prop := (fun x xs H Q => ∃ a b i rest, x = .str a ∧ xs = [.str b] ∧ Builtin.Str.occurrences a b 0 a.length 1 = i :: rest ∧ Q (.int (i : Nat)) H)
abbrev aIndexS := tM1 rIndexS
def rFindS : V → List V → Hp → VK → Prop := (fun x xs H Q => ∃ a b, x = .str a ∧ xs = [.str b] ∧ Q (.int (Txt.find a b)) H)
abbrev aFind := tM1 rFindS
section
variable {X : Cx}
theorem o_lt : OpR X (compareOp .Lt) rLt := by unfold rLt; simp only [dB_eq]; exact op_lt
theorem o_le : OpR X (compareOp .LtE) rLe := by unfold rLe; simp only [dB_eq]; exact op_le
theorem o_gt : OpR X (compareOp .Gt) rGt := by unfold rGt; simp only [dB_eq]; exact op_gt
theorem o_ge : OpR X (compareOp .GtE) rGe := by unfold rGe; simp only [dB_eq]; exact op_ge
theorem o_lt_str : OpR X (compareOp .Lt) rLtS := by unfold rLtS; simp only [dB_eq]; exact op_lt_str
theorem o_le_str : OpR X (compareOp .LtE) rLeS := by unfold rLeS; simp only [dB_eq]; exact op_le_str
theorem o_gt_str : OpR X (compareOp .Gt) rGtS := by unfold rGtS; simp only [dB_eq]; exact op_gt_str
theorem o_ge_str : OpR X (compareOp .GtE) rGeS := by unfold rGeS; simp only [dB_eq]; exact op_ge_str
end
theorem kit_int_int : kitB "int" "int" = some true := by decide +kernel
theorem kit_int_bool : kitB "int" "bool" = some false := by decide +kernel
theorem kit_int_str : kitB "int" "str" = some false := by decide +kernel
theorem kit_int_list : kitB "int" "list" = some false := by decide +kernel
theorem kit_int_tuple : kitB "int" "tuple" = some false := by decide +kernel
theorem kit_int_dict : kitB "int" "dict" = some false := by decide +kernel
theorem kit_bool_int : kitB "bool" "int" = some true := by decide +kernel
theorem kit_bool_bool : kitB "bool" "bool" = some true := by decide +kernel
theorem kit_bool_str : kitB "bool" "str" = some false := by decide +kernel
theorem kit_bool_list : kitB "bool" "list" = some false := by decide +kernel
theorem kit_bool_tuple : kitB "bool" "tuple" = some false := by decide +kernel
theorem kit_bool_dict : kitB "bool" "dict" = some false := by decide +kernel
theorem kit_str_int : kitB "str" "int" = some false := by decide +kernel
theorem kit_str_bool : kitB "str" "bool" = some false := by decide +kernel
theorem kit_str_str : kitB "str" "str" = some true := by decide +kernel
theorem kit_str_list : kitB "str" "list" = some false := by decide +kernel
theorem kit_str_tuple : kitB "str" "tuple" = some false := by decide +kernel
theorem kit_str_dict : kitB "str" "dict" = some false := by decide +kernel
theorem kit_NoneType_int : kitB "NoneType" "int" = some false := by decide +kernel
theorem kit_NoneType_bool : kitB "NoneType" "bool" = some false := by decide +kernel
theorem kit_NoneType_str : kitB "NoneType" "str" = some false := by decide +kernel
theorem kit_NoneType_list : kitB "NoneType" "list" = some false := by decide +kernel
theorem kit_NoneType_tuple : kitB "NoneType" "tuple" = some false := by decide +kernel
theorem kit_NoneType_dict : kitB "NoneType" "dict" = some false := by decide +kernel
theorem kit_list_int : kitB "list" "int" = some false := by decide +kernel
theorem kit_list_bool : kitB "list" "bool" = some false := by decide +kernel
theorem kit_list_str : kitB "list" "str" = some false := by decide +kernel
theorem kit_list_list : kitB "list" "list" = some true := by decide +kernel
theorem kit_list_tuple : kitB "list" "tuple" = some false := by decide +kernel
theorem kit_list_dict : kitB "list" "dict" = some false := by decide +kernel
theorem kit_tuple_int : kitB "tuple" "int" = some false := by decide +kernel
theorem kit_tuple_bool : kitB "tuple" "bool" = some false := by decide +kernel
theorem kit_tuple_str : kitB "tuple" "str" = some false := by decide +kernel
theorem kit_tuple_list : kitB "tuple" "list" = some false := by decide +kernel
theorem kit_tuple_tuple : kitB "tuple" "tuple" = some true := by decide +kernel
theorem kit_tuple_dict : kitB "tuple" "dict" = some false := by decide +kernel
theorem kit_dict_int : kitB "dict" "int" = some false := by decide +kernel
theorem kit_dict_bool : kitB "dict" "bool" = some false := by decide +kernel
theorem kit_dict_str : kitB "dict" "str" = some false := by decide +kernel
theorem kit_dict_list : kitB "dict" "list" = some false := by decide +kernel
theorem kit_dict_tuple : kitB "dict" "tuple" = some false := by decide +kernel
theorem kit_dict_dict : kitB "dict" "dict" = some true := by decide +kernel
section
variable {K : PySem.W.Frag} {σ σ' : L2.St} {H H' : Hp} {ta tb te tx : TE} {x y z v : V} {r : R2} {Q : VK} {D : Ends} {t u c : TT} {ts tu tw : TS} {g : TG} {i j : Nat}
theorem w_var (h : σ[i]? = some (some v)) (q : Q v H) : tVar i σ H Q := ⟨v, h, q⟩
theorem w_c (q : Q v H) : tC v σ H Q := q
theorem w_op (q : ta σ H fun x H1 => tb σ H1 fun y H2 => r x y H2 Q) : tOp r ta tb σ H Q := q
theorem w_un {r : V → Hp → VK → Prop} (q : ta σ H fun x H1 => r x H1 Q) : tUn r ta σ H Q := q
theorem w_i0 {f : Int → Int → V} {a b : Int} (q : Q (f a b) H) : rI0 f (.int a) (.int b) H Q := ⟨a, b, rfl, rfl, q⟩
theorem w_i {C : Int → Int → Prop} {f : Int → Int → V} {a b : Int} (hc : C a b) (q : Q (f a b) H) : rI C f (.int a) (.int b) H Q := ⟨a, b, rfl, rfl, hc, q⟩
theorem w_u {f : Int → V} {a : Int} (q : Q (f a) H) : rU f (.int a) H Q := ⟨a, rfl, q⟩
theorem w_eqI {a b : Int} (q : Q (.bl (dB (a = b))) H) : rEq (.int a) (.int b) H Q := ⟨rfl, by simpa [dB_eq] using q⟩
theorem w_neI {a b : Int} (q : Q (.bl (!dB (a = b))) H) : rNe (.int a) (.int b) H Q := ⟨rfl, by simpa [dB_eq] using q⟩
theorem w_eqS {a b : Str} (q : Q (.bl (dB (a = b))) H) : rEq (.str a) (.str b) H Q := ⟨rfl, by simpa [dB_eq] using q⟩
theorem w_neS {a b : Str} (q : Q (.bl (!dB (a = b))) H) : rNe (.str a) (.str b) H Q := ⟨rfl, by simpa [dB_eq] using q⟩
theorem w_eq (h : scal x y = true) (q : Q (.bl (dB (x = y))) H) : rEq x y H Q := ⟨h, by rw [← dB_eq]; exact q⟩
theorem w_ne (h : scal x y = true) (q : Q (.bl (!dB (x = y))) H) : rNe x y H Q := ⟨h, by rw [← dB_eq]; exact q⟩
theorem w_isNN (q : Q (.bl true) H) : rIsN .non .non H Q := ⟨rfl, q⟩
theorem w_isNI {a : Int} (q : Q (.bl false) H) : rIsN (.int a) .non H Q := ⟨rfl, q⟩
theorem w_isNS {a : Str} (q : Q (.bl false) H) : rIsN (.str a) .non H Q := ⟨rfl, q⟩
theorem w_isNR {a : Addr} (q : Q (.bl false) H) : rIsN (.ref a) .non H Q := ⟨rfl, q⟩
theorem w_notNN (q : Q (.bl false) H) : rNotN .non .non H Q := ⟨rfl, q⟩
theorem w_notNI {a : Int} (q : Q (.bl true) H) : rNotN (.int a) .non H Q := ⟨rfl, q⟩
theorem w_notNS {a : Str} (q : Q (.bl true) H) : rNotN (.str a) .non H Q := ⟨rfl, q⟩
theorem w_notNR {a : Addr} (q : Q (.bl true) H) : rNotN (.ref a) .non H Q := ⟨rfl, q⟩

theorem w_i0B {p : Int → Int → Prop} [∀ i j, Decidable (p i j)] {a b : Int} (q : Q (.bl (dB (p a b))) H) : rI0 (fun i j => V.bl (dB (p i j))) (.int a) (.int b) H Q := ⟨a, b, rfl, rfl, q⟩
theorem w_lt {a b : Int} (q : Q (.bl (dB (a < b))) H) : rLt (.int a) (.int b) H Q := ⟨a, b, rfl, rfl, q⟩
theorem w_le {a b : Int} (q : Q (.bl (dB (a ≤ b))) H) : rLe (.int a) (.int b) H Q := ⟨a, b, rfl, rfl, q⟩
theorem w_gt {a b : Int} (q : Q (.bl (dB (b < a))) H) : rGt (.int a) (.int b) H Q := ⟨a, b, rfl, rfl, q⟩
theorem w_ge {a b : Int} (q : Q (.bl (dB (b ≤ a))) H) : rGe (.int a) (.int b) H Q := ⟨a, b, rfl, rfl, q⟩
theorem w_ltS {a b : Str} (q : Q (.bl (dB (a.cps.toList < b.cps.toList))) H) : rLtS (.str a) (.str b) H Q := ⟨a, b, rfl, rfl, q⟩
theorem w_leS {a b : Str} (q : Q (.bl (!dB (b.cps.toList < a.cps.toList))) H) : rLeS (.str a) (.str b) H Q := ⟨a, b, rfl, rfl, q⟩
theorem w_gtS {a b : Str} (q : Q (.bl (dB (b.cps.toList < a.cps.toList))) H) : rGtS (.str a) (.str b) H Q := ⟨a, b, rfl, rfl, q⟩
theorem w_geS {a b : Str} (q : Q (.bl (!dB (a.cps.toList < b.cps.toList))) H) : rGeS (.str a) (.str b) H Q := ⟨a, b, rfl, rfl, q⟩
theorem w_addS {a b : Str} (h : a.length + b.length ≤ sizeLine) (q : Q (.str (a ++ b)) H) : rAddS (.str a) (.str b) H Q := ⟨a, b, rfl, rfl, h, q⟩
theorem w_inS {c : Nat} {w : Str} (q : Q (.bl (dB (c ∈ w.cps.toList))) H) : rInS (.str ⟨#[c]⟩) (.str w) H Q := ⟨c, w, rfl, rfl, by rw [← dB_eq]; exact q⟩
theorem w_ninS {c : Nat} {w : Str} (q : Q (.bl (!dB (c ∈ w.cps.toList))) H) : rNotInS (.str ⟨#[c]⟩) (.str w) H Q := ⟨c, w, rfl, rfl, by rw [← dB_eq]; exact q⟩
theorem w_test {Q : Bool → Hp → Prop} (q : te σ H fun x H' => ∃ k, x = .bl k ∧ Q k H') : tTest te σ H Q := q
theorem w_tB {Q : Bool → Hp → Prop} (q : te σ H fun x H' => ∃ k, x = .bl k ∧ Q k H') : tB te σ H Q := q
theorem w_tru {Q : Bool → Hp → Prop} (q : te σ H fun x H' => ∃ k, TruV K x H' k ∧ Q k H') : tTru K te σ H Q := q
theorem w_bl {P : Bool → Prop} {b : Bool} (q : P b) : ∃ k, V.bl b = .bl k ∧ P k := ⟨b, rfl, q⟩
theorem w_int {P : Int → Prop} {b : Int} (q : P b) : ∃ k, V.int b = .int k ∧ P k := ⟨b, rfl, q⟩
theorem w_ref {P : Addr → Prop} {b : Addr} (q : P b) : ∃ k, V.ref b = .ref k ∧ P k := ⟨b, rfl, q⟩
theorem w_str {P : Str → Prop} {b : Str} (q : P b) : ∃ k, V.str b = .str k ∧ P k := ⟨b, rfl, q⟩
theorem w_and {Q : Bool → Hp → Prop} (q : t σ H fun c H1 => if c = true then u σ H1 Q else Q false H1) : tAnd t u σ H Q := q
theorem w_or {Q : Bool → Hp → Prop} (q : t σ H fun c H1 => if c = true then Q true H1 else u σ H1 Q) : tOr t u σ H Q := q
theorem w_not {Q : Bool → Hp → Prop} (q : t σ H fun c H1 => Q (!c) H1) : tNot t σ H Q := q
theorem w_andV (q : ta σ H fun x H1 => ∃ c, x = .bl c ∧ if c = true then tb σ H1 Q else Q (.bl false) H1) : tAndV ta tb σ H Q := q
theorem w_orV (q : ta σ H fun x H1 => ∃ c, x = .bl c ∧ if c = true then Q (.bl true) H1 else tb σ H1 Q) : tOrV ta tb σ H Q := q
theorem w_notV (q : ta σ H fun x H1 => ∃ c, x = .bl c ∧ Q (.bl (!c)) H1) : tNotV ta σ H Q := q
theorem w_ifE (q : t σ H fun c H1 => if c = true then ta σ H1 Q else tb σ H1 Q) : tIf t ta tb σ H Q := q
theorem w_chain {r r' : R2} {tc : TE} (q : ta σ H fun x H1 => tb σ H1 fun y H2 => r x y H2 fun z H3 => ∃ k, z = .bl k ∧ (if k = true then tc σ H3 fun w' H4 => r' y w' H4 Q else Q (.bl false) H3)) : tChain r r' ta tb tc σ H Q := q
theorem w_dec {p A B : Prop} [Decidable p] (h1 : p → A) (h2 : ¬ p → B) : if dB p = true then A else B := by
  by_cases h : p
  · rw [if_pos (dB_t h)]; exact h1 h
  · rw [if_neg (by rw [dB_f h]; exact Bool.false_ne_true)]; exact h2 h
theorem w_ndec {p A B : Prop} [Decidable p] (h1 : ¬ p → A) (h2 : p → B) : if (!dB p) = true then A else B := by
  by_cases h : p
  · rw [if_neg (by rw [dB_t h]; exact Bool.false_ne_true)]; exact h2 h
  · rw [if_pos (by rw [dB_f h]; rfl)]; exact h1 h
theorem w_bool {b : Bool} {A B : Prop} (h1 : b = true → A) (h2 : b = false → B) : if b = true then A else B := by
  cases b with
  | true => exact h1 rfl
  | false => exact h2 rfl
theorem w_tt {b : Bool} {A B : Prop} (e : b = true) (h : A) : if b = true then A else B := by rw [if_pos e]; exact h
theorem w_ff {b : Bool} {A B : Prop} (e : b = false) (h : B) : if b = true then A else B := by rw [if_neg (by rw [e]; exact Bool.false_ne_true)]; exact h
theorem w_ttL {A B : Prop} (h : A) : if true = true then A else B := iteT h
theorem w_ffL {A B : Prop} (h : B) : if false = true then A else B := iteF h
theorem w_seq (q : ts { D with nx := tu D } σ H) : tSeq ts tu D σ H := q
theorem w_cut (Mid : L2.St → Hp → Prop) (h : ts { D with nx := Mid } σ H) (k : ∀ σ' H', Mid σ' H' → tu D σ' H') : Evl.tCut ts tu D σ H := ⟨Mid, h, k⟩
theorem w_next (q : D.nx σ H) : tNext D σ H := q
theorem w_brk (q : D.bk σ H) : tBreak D σ H := q
theorem w_cont (q : D.ct σ H) : tCont D σ H := q
theorem w_asg (q : te σ H fun x H1 => g x σ H1 D.nx) : tAsg te g D σ H := q
theorem w_gn {Q : L2.St → Hp → Prop} (e : σ.set i (some v) = σ') (q : Q σ' H) : gName i v σ H Q := by subst e; exact q
theorem w_drop (q : te σ H fun _ H1 => D.nx σ H1) : tDrop te D σ H := q
theorem w_ret (q : te σ H D.rt) : tRet te D σ H := q
theorem w_retN (q : D.rt .non H) : tRetN D σ H := q
theorem w_ifS (q : c σ H fun b H1 => if b = true then ts D σ H1 else tu D σ H1) : tIfS c ts tu D σ H := q
theorem w_aug {ti : TIp} (h : σ[i]? = some (some x)) (q : te σ H fun y H1 => ti x y H1 fun z H2 => D.nx (σ.set i (some z)) H2) : tAug i te ti D σ H := ⟨x, h, q⟩
theorem w_ip {f : Int → Int → Int} {a b : Int} (q : Q (.int (f a b)) H) : ipI f (.int a) (.int b) H Q := ⟨a, b, rfl, rfl, q⟩
theorem w_par {ta : TA} (q : ta σ H fun vs H1 => ∃ v w, vs = [v, w] ∧ D.nx ((σ.set i (some v)).set j (some w)) H1) : tPar i j ta D σ H := q
theorem w_v2 {P : V → V → Prop} (q : P x y) : ∃ v w, [x, y] = [v, w] ∧ P v w := ⟨x, y, rfl, q⟩
theorem w_nil {Q : List V → Hp → Prop} (q : Q [] H) : tNil σ H Q := q
theorem w_cons {tr : TA} {Q : List V → Hp → Prop} (q : ta σ H fun x H1 => tr σ H1 fun xs H2 => Q (x :: xs) H2) : tCons ta tr σ H Q := q
theorem w_call {sp : Sp} {E : XK} {t : TA} (q : t σ H fun vs H1 => sp vs H1 Q E) : tCall sp [] E t σ H Q := by
  unfold tCall
  simp only [List.append_nil]
  exact q
theorem w_cb {r : List V → Hp → VK → Prop} {t : TA} (q : t σ H fun vs H1 => r vs H1 Q) : tCB r t σ H Q := q
def rMeth (C : Addr) (m : Str) (sp : Sp) (E : XK) (t : TA) (σ : L2.St) (x : V) (H : Hp) (Q : VK) : Prop := ∃ a dx fs, x = .ref a ∧ H a = some (.ins C dx fs) ∧ fs.lookup m = none ∧ t σ H fun vs H2 => sp (x :: vs) H2 Q E
theorem w_meth {C : Addr} {m : Str} {sp : Sp} {E : XK} {t : TA} (q : ta σ H fun x H1 => rMeth C m sp E t σ x H1 Q) : tMeth C m sp [] E ta t σ H Q := by
  unfold tMeth
  simp only [List.append_nil]
  exact q
theorem w_meth1 {C p dx : Addr} {m : Str} {sp : Sp} {E : XK} {t : TA} {fs : List (Str × V)} (h : H p = some (.ins C dx fs)) (l : fs.lookup m = none) (q : t σ H fun vs H2 => sp (.ref p :: vs) H2 Q E) : rMeth C m sp E t σ (.ref p) H Q := ⟨p, dx, fs, rfl, h, l, q⟩
theorem w_make {C : Addr} {sp : Sp} {E : XK} {t : TA} (q : t σ H fun vs H1 => ∀ x dx, H1 x = none → H1 dx = none → dx ≠ x → sp (.ref x :: vs) (upd (upd H1 dx (.own x)) x (.ins C dx [])) (fun v H2 => v = .non ∧ Q (.ref x) H2) E) : tMake C sp [] E t σ H Q := by
  unfold tMake
  simp only [List.append_nil]
  exact q
theorem w_int1 {a : Int} (q : Q (.int a) H) : rInt1 [.int a] H Q := .inl ⟨a, rfl, q⟩
theorem w_int1b {k : Bool} (q : Q (.int (if k then 1 else 0)) H) : rInt1 [.bl k] H Q := .inr ⟨k, rfl, q⟩
theorem w_lenStr {x : Str} (h : x.length ≤ sizeLine) (q : Q (.int (x.length : Nat)) H) : rLenStr [.str x] H Q := ⟨x, rfl, h, q⟩
theorem w_lenS {p : Addr} {xs : List V} (h : SqL K H p xs) (q : Q (.int xs.length) H) : Evl.rLenS K [.ref p] H Q := ⟨p, xs, rfl, .inl h, q⟩
theorem w_lenT {p : Addr} {xs : List V} (h : SqT K H p xs) (q : Q (.int xs.length) H) : Evl.rLenS K [.ref p] H Q := ⟨p, xs, rfl, .inr h, q⟩
theorem w_max2 {a b : Int} (q : Q (.int (if b > a then b else a)) H) : Evl.rMax2 [.int a, .int b] H Q := ⟨a, b, rfl, q⟩
theorem w_min2 {a b : Int} (q : Q (.int (if b < a then b else a)) H) : rMin2 [.int a, .int b] H Q := ⟨a, b, rfl, q⟩
theorem w_isi {c : V} {t u : Value} {b : Bool} (k : ClsV c u) (ty : TyX K H x t) (e : PySem.W.kitOne K t u = some b) (q : Q (.bl b) H) : rIsi K [x, c] H Q := ⟨x, c, t, u, b, rfl, k, ty, e, q⟩
theorem w_isiI {n : String} {b : Bool} {a : Int} (e : kitB "int" n = some b) (q : Q (.bl b) H) : rIsi K [.int a, .ty n] H Q := w_isi (.ty n) (.base (.int a)) (kit_ty e) q
theorem w_isiB {n : String} {b : Bool} {a : Bool} (e : kitB "bool" n = some b) (q : Q (.bl b) H) : rIsi K [.bl a, .ty n] H Q := w_isi (.ty n) (.base (.bl a)) (kit_ty e) q
theorem w_isiN {n : String} {b : Bool} (e : kitB "NoneType" n = some b) (q : Q (.bl b) H) : rIsi K [.non, .ty n] H Q := w_isi (.ty n) (.base .non) (kit_ty e) q
theorem w_isiS {n : String} {b : Bool} {a : Str} (e : kitB "str" n = some b) (q : Q (.bl b) H) : rIsi K [.str a, .ty n] H Q := w_isi (.ty n) (.base (.str a)) (kit_ty e) q
theorem w_isiL {n : String} {b : Bool} {p : Addr} {xs : List V} (h : H p = some (.lst xs)) (e : kitB "list" n = some b) (q : Q (.bl b) H) : rIsi K [.ref p, .ty n] H Q := w_isi (.ty n) (.base (.lst h)) (kit_ty e) q
theorem w_isiT {n : String} {b : Bool} {p : Addr} {xs : List V} (h : H p = some (.tup xs)) (e : kitB "tuple" n = some b) (q : Q (.bl b) H) : rIsi K [.ref p, .ty n] H Q := w_isi (.ty n) (.base (.tup h)) (kit_ty e) q
theorem w_tup {t : TA} (q : t σ H fun xs H1 => xs.length ≤ sizeLine ∧ ∀ p, H1 p = none → Q (.ref p) (upd H1 p (.tup xs))) : tTup t σ H Q := q
theorem w_lst {t : TA} (q : t σ H fun xs H1 => xs.length ≤ sizeLine ∧ ∀ p, H1 p = none → Q (.ref p) (upd H1 p (.lst xs))) : tLst t σ H Q := q
theorem w_sz {n : Nat} {B : Prop} (h : n ≤ sizeLine) (q : B) : n ≤ sizeLine ∧ B := ⟨h, q⟩
theorem w_dnew (q : ∀ p, H p = none → Q (.ref p) (upd H p (.dK []))) : tDNewK σ H Q := q
theorem ex_at {a : Addr} {o : HO} (e : Ex H H') (h : H a = some o) : H' a = some o := e a o h
theorem ex_sq {a : Addr} {xs : List V} (e : Ex H H') (h : SqL K H a xs) : SqL K H' a xs := Evl.ex_l e h
theorem ex_st {a : Addr} {xs : List V} (e : Ex H H') (h : SqT K H a xs) : SqT K H' a xs := Evl.ex_t e h
theorem new_ex {p : Addr} {o : HO} (h : H p = none) (e : upd H p o = H') : Ex H H' := e ▸ Evl.Ex.new h
theorem new_at {p : Addr} {o : HO} (e : upd H p o = H') : H' p = some o := e ▸ upd_same
theorem ex_free {a : Addr} (e : Ex H H') (h : H' a = none) : H a = none := Evl.fresh_back e h
theorem w_ixL {p : Addr} {xs : List V} {i : Int} (h : SqL K H p xs) (a : atI xs i = some v) (q : Q v H) : rIxL K (.ref p) (.int i) H Q := ⟨p, xs, i, v, rfl, rfl, h, a, q⟩
theorem w_ixT {p : Addr} {xs : List V} {i : Int} (h : SqT K H p xs) (a : atI xs i = some v) (q : Q v H) : rIxT K (.ref p) (.int i) H Q := ⟨p, xs, i, v, rfl, rfl, h, a, q⟩
theorem w_ixS {z : Str} {i : Int} {c : Nat} (h : z.length ≤ sizeLine) (a : atI z.cps.toList i = some c) (q : Q (.str ⟨#[c]⟩) H) : rIxS (.str z) (.int i) H Q := ⟨z, i, c, rfl, rfl, h, a, q⟩
theorem w_sl {r : V → Option Int → Option Int → Hp → VK → Prop} {tl th : TO} (q : te σ H fun x H1 => tl σ H1 fun l H2 => th σ H2 fun u H3 => r x l u H3 Q) : tSl r te tl th σ H Q := q
theorem w_noPart {Q : Option Int → Hp → Prop} (q : Q none H) : tNoPart σ H Q := q
theorem w_part {Q : Option Int → Hp → Prop} (q : te σ H fun x H1 => ∃ i, x = .int i ∧ Q (some i) H1) : tPart te σ H Q := q
theorem w_slL {p : Addr} {xs : List V} {lo hi : Option Int} (h : SqL K H p xs) (q : ∀ l, H l = none → Q (.ref l) (upd H l (.lst (cutV xs lo hi)))) : rSlL K (.ref p) lo hi H Q := ⟨p, xs, rfl, h, q⟩
theorem w_slS {z : Str} {lo hi : Option Int} (h : z.length ≤ sizeLine) (q : Q (.str (cutS z lo hi)) H) : rSlS (.str z) lo hi H Q := ⟨z, rfl, h, q⟩
theorem w_cat {l b : Addr} {xs zs : List V} (h1 : H l = some (.lst xs)) (h2 : H b = some (.lst zs)) (hl : xs.length + zs.length ≤ sizeLine) (q : ∀ p, H p = none → Q (.ref p) (upd H p (.lst (xs ++ zs)))) : rCat (.ref l) (.ref b) H Q := ⟨l, b, xs, zs, rfl, rfl, h1, h2, hl, q⟩
theorem w_for {wi : TI} (q : wi σ H fun J H1 => ∃ W : Nat → Nat → L2.St → Hp → Prop, (∃ m, W 0 m σ H1) ∧ ∀ i m σ H, W i m σ H →
  (J.stop i H ∧ D.nx σ H) ∨ (J.go i H ∧ ∃ N : L2.St → Hp → Prop, (∀ σ' H', N σ' H' → ∃ m', m' < m ∧ W (i + 1) m' σ' H') ∧ ∀ x H', J.yld i H x H' → g x σ H' fun σ2 H2 => ts { D with nx := N, ct := N, bk := D.nx } σ2 H2)) : tFor wi g ts D σ H := q
theorem w_iList {R : It → Hp → Prop} (q : te σ H fun x H1 => ∃ a, x = .ref a ∧ (∃ xs, SqL K H1 a xs) ∧ R (Itl K a) H1) : iList K te σ H R := q
theorem w_iTup {R : It → Hp → Prop} (q : te σ H fun x H1 => ∃ a, x = .ref a ∧ (∃ xs, SqT K H1 a xs) ∧ R (Itt K a) H1) : iTup K te σ H R := q
theorem w_iStr {R : It → Hp → Prop} (q : te σ H fun v H1 => ∃ x, v = .str x ∧ R (Its x) H1) : iStr te σ H R := q
theorem w_iRng1 {ta : TA} {R : It → Hp → Prop} (q : ta σ H fun vs H1 => ∃ j : Int, vs = [.int j] ∧ -(2 ^ 62) ≤ j ∧ j < 2 ^ 62 ∧ R (Itr 0 j.toNat) H1) : iRng1 ta σ H R := q
theorem w_iRng2 {ta : TA} {R : It → Hp → Prop} (q : ta σ H fun vs H1 => ∃ i j : Int, vs = [.int i, .int j] ∧ (-(2 ^ 62) ≤ i ∧ i < 2 ^ 62 ∧ -(2 ^ 62) ≤ j ∧ j < 2 ^ 62) ∧ R (Itr i (j - i).toNat) H1) : iRng2 ta σ H R := q
theorem w_v1I {P : Int → Prop} {n : Int} (q : P n) : ∃ j, [V.int n] = [.int j] ∧ P j := ⟨n, rfl, q⟩
theorem w_v2I {P : Int → Int → Prop} {n m : Int} (q : P n m) : ∃ i j, [V.int n, .int m] = [.int i, .int j] ∧ P i j := ⟨n, m, rfl, q⟩
theorem f_list {a : Addr} {xs : List V} (hx : SqL K H a xs) (Pv : Nat → L2.St → Hp → Prop) (h0 : Pv 0 σ H) (hl : ∀ i σ H, i ≤ xs.length → Pv i σ H → SqL K H a xs)
    (hs : ∀ i x σ H, xs[i]? = some x → Pv i σ H → g x σ H fun σ2 H2 => ts { D with nx := Pv (i + 1), ct := Pv (i + 1), bk := D.nx } σ2 H2) (hd : ∀ σ H, Pv xs.length σ H → D.nx σ H) :
    (∃ xs, SqL K H a xs) ∧ ∃ W : Nat → Nat → L2.St → Hp → Prop, (∃ m, W 0 m σ H) ∧ ∀ i m σ H, W i m σ H →
      ((Itl K a).stop i H ∧ D.nx σ H) ∨ ((Itl K a).go i H ∧ ∃ N : L2.St → Hp → Prop, (∀ σ' H', N σ' H' → ∃ m', m' < m ∧ W (i + 1) m' σ' H') ∧ ∀ x H', (Itl K a).yld i H x H' → g x σ H' fun σ2 H2 => ts { D with nx := N, ct := N, bk := D.nx } σ2 H2) :=
  ⟨⟨xs, hx⟩, for_list Pv h0 hl hs hd⟩
theorem f_tup {a : Addr} {xs : List V} (hx : SqT K H a xs) (Pv : Nat → L2.St → Hp → Prop) (h0 : Pv 0 σ H) (hl : ∀ i σ H, i ≤ xs.length → Pv i σ H → SqT K H a xs)
    (hs : ∀ i x σ H, xs[i]? = some x → Pv i σ H → g x σ H fun σ2 H2 => ts { D with nx := Pv (i + 1), ct := Pv (i + 1), bk := D.nx } σ2 H2) (hd : ∀ σ H, Pv xs.length σ H → D.nx σ H) :
    (∃ xs, SqT K H a xs) ∧ ∃ W : Nat → Nat → L2.St → Hp → Prop, (∃ m, W 0 m σ H) ∧ ∀ i m σ H, W i m σ H →
      ((Itt K a).stop i H ∧ D.nx σ H) ∨ ((Itt K a).go i H ∧ ∃ N : L2.St → Hp → Prop, (∀ σ' H', N σ' H' → ∃ m', m' < m ∧ W (i + 1) m' σ' H') ∧ ∀ x H', (Itt K a).yld i H x H' → g x σ H' fun σ2 H2 => ts { D with nx := N, ct := N, bk := D.nx } σ2 H2) :=
  ⟨⟨xs, hx⟩, for_tup Pv h0 hl hs hd⟩
theorem f_rng {n : Int} (h1 : 0 ≤ n) (h2 : n ≤ 1000000) (Pv : Nat → L2.St → Hp → Prop) (h0 : Pv 0 σ H)
    (hs : ∀ (i : Nat) σ H, (i : Int) < n → Pv i σ H → g (.int (i : Int)) σ H fun σ2 H2 => ts { D with nx := Pv (i + 1), ct := Pv (i + 1), bk := D.nx } σ2 H2) (hd : ∀ σ H, Pv n.toNat σ H → D.nx σ H) :
    -(2 ^ 62) ≤ n ∧ n < 2 ^ 62 ∧ ∃ W : Nat → Nat → L2.St → Hp → Prop, (∃ m, W 0 m σ H) ∧ ∀ i m σ H, W i m σ H →
      ((Itr 0 n.toNat).stop i H ∧ D.nx σ H) ∨ ((Itr 0 n.toNat).go i H ∧ ∃ N : L2.St → Hp → Prop, (∀ σ' H', N σ' H' → ∃ m', m' < m ∧ W (i + 1) m' σ' H') ∧ ∀ x H', (Itr 0 n.toNat).yld i H x H' → g x σ H' fun σ2 H2 => ts { D with nx := N, ct := N, bk := D.nx } σ2 H2) := by
  refine ⟨by omega, by omega, for_range Pv h0 (fun i σ H hi p => ?_) hd⟩
  have e : (0 : Int) + (i : Int) = (i : Int) := Int.zero_add _
  rw [e]
  exact hs i σ H (by omega) p
theorem int_item {ns : List Int} {i : Nat} {x : V} (h : (ns.map V.int)[i]? = some x) : ∃ n, x = .int n ∧ ns[i]? = some n := by
  rw [List.getElem?_map] at h
  cases e : ns[i]? with
  | none => rw [e] at h; cases h
  | some z => rw [e] at h; exact ⟨z, (Option.some.inj h).symm, rfl⟩
theorem atI_lt {xs : List V} {i : Int} (h0 : 0 ≤ i) (h1 : i < xs.length) : atI xs i = some (xs.getD i.toNat .non) := by
  have e2 : ((i.toNat : Nat) : Int) = i := by omega
  have h3 : i.toNat < xs.length := by omega
  have e3 : xs[i.toNat]? = some (xs.getD i.toNat .non) := by
    rw [List.getD_eq_getElem?_getD, List.getElem?_eq_getElem h3]
    rfl
  have e := atI_nat (xs := xs) e3
  rw [e2] at e
  exact e
theorem sIx_nat (n d k : Nat) : HT.sIx n d (some (k : Int)) = min k n := by
  unfold HT.sIx
  simp
  omega
theorem cutV_to (xs : List V) (k : Nat) : cutV xs none (some (k : Int)) = xs.take k := by
  unfold cutV
  rw [sIx_nat]
  show (xs.drop 0).take (min k xs.length - 0) = xs.take k
  rw [List.drop_zero, Nat.sub_zero]
  rcases Nat.le_total k xs.length with h | h
  · rw [Nat.min_eq_left h]
  · rw [Nat.min_eq_right h, List.take_of_length_le (Nat.le_refl _), List.take_of_length_le h]
theorem cutV_all (xs : List V) (k : Nat) (h : xs.length ≤ k) : cutV xs none (some (k : Int)) = xs := by
  rw [cutV_to, List.take_of_length_le h]
mutual
theorem dp_mono (e : Ex H H') : ∀ (d : PyData) (v : V), Dp K H v d → Dp K H' v d
  | .none, _, h => by cases h; exact .non
  | .bool b, _, h => by cases h; exact .bl b
  | .int i, _, h => by cases h; exact .int i
  | .str x, _, h => by cases h; exact .str x
  | .list ds, _, h => by
    cases h with
    | lst hs ha => exact .lst (ex_sq e hs) (dpAll_mono e ds _ ha)
  | .tuple ds, _, h => by
    cases h with
    | tup hs ha => exact .tup (ex_st e hs) (dpAll_mono e ds _ ha)
  | .dict _, _, h => by cases h
theorem dpAll_mono (e : Ex H H') : ∀ (ds : List PyData) (vs : List V), DpAll K H vs ds → DpAll K H' vs ds
  | [], _, h => by cases h; exact .nil
  | d :: ds, _, h => by
    cases h with
    | cons h1 h2 => exact .cons (dp_mono e d _ h1) (dpAll_mono e ds _ h2)
end
theorem w_eqD {d1 d2 : PyData} {b : Bool} (h1 : Dp K H x d1) (h2 : Dp K H y d2) (s1 : SeqAt.shaped d1 = true) (s2 : SeqAt.shaped d2 = true) (e : PyData.eqv d1 d2 = b) (q : Q (.bl b) H) : rEqD K x y H Q := ⟨d1, d2, h1, h2, s1, s2, e ▸ q⟩
theorem w_neD {d1 d2 : PyData} {b : Bool} (h1 : Dp K H x d1) (h2 : Dp K H y d2) (s1 : SeqAt.shaped d1 = true) (s2 : SeqAt.shaped d2 = true) (e : PyData.eqv d1 d2 = b) (q : Q (.bl (!b)) H) : rNeD K x y H Q := ⟨d1, d2, h1, h2, s1, s2, e ▸ q⟩
theorem eqv_self {d : PyData} (h : SeqAt.shaped d = true) : PyData.eqv d d = true := by
  unfold SeqAt.shaped at h
  exact SeqAt.eqv_refl d (by simp at h; exact h.1)
theorem w_lc {wi : TI} {vs : List Nat} (q : wi σ H fun J H1 => ∀ D, H1 D = none → ∃ W : Nat → Nat → Hp → Prop, (∃ m, W 0 m (upd H1 D (.lst []))) ∧ ∀ i m H, W i m H →
  (J.stop i H ∧ Q (.ref D) H) ∨ (J.go i H ∧ ∃ Nx : Hp → Prop, (∀ H', Nx H' → ∃ m', m' < m ∧ W (i + 1) m' H') ∧ ∀ x H', J.yld i H x H' → g x (wipe σ vs) H' fun σ2 H2 => wipe σ2 vs = wipe σ vs ∧ t σ2 H2 fun b H3 =>
    if b = true then te σ2 H3 fun y H4 => ∃ acc, H4 D = some (.lst acc) ∧ acc.length < sizeLine ∧ Nx (upd H4 D (.lst (acc ++ [y]))) else Nx H3)) : tLc wi g t te vs σ H Q := q
theorem lc_fil {J : It} {n : Nat} {G : Hp → Prop} {Y : Nat → Hp → V → Hp → Prop} (w : Walk J n G Y) {vs : List Nat} {H1 : Hp} {Qd : Addr → Hp → Prop} (hn : n ≤ 1000000) (f : Nat → Option V) (hG : ∀ H', Ex H1 H' → G H') (hY : ∀ i H x H', i < n → Y i H x H' → Ex H H')
    (hs : ∀ i x H H', i < n → Ex H1 H → Y i H x H' → ∀ (R : V → Hp → Prop) (S : Hp → Prop), (∀ H4, Ex H' H4 → ∀ v, f i = some v → R v H4) → (∀ H4, Ex H' H4 → f i = none → S H4) →
      g x (wipe σ vs) H' fun σ2 H2 => wipe σ2 vs = wipe σ vs ∧ t σ2 H2 fun b H3 => if b = true then te σ2 H3 R else S H3)
    (hq : ∀ D H', H1 D = none → Ex H1 H' → H' D = some (.lst ((List.range n).filterMap f)) → Qd D H') :
    ∀ D, H1 D = none → ∃ W : Nat → Nat → Hp → Prop, (∃ m, W 0 m (upd H1 D (.lst []))) ∧ ∀ i m H, W i m H →
      (J.stop i H ∧ Qd D H) ∨ (J.go i H ∧ ∃ Nx : Hp → Prop, (∀ H', Nx H' → ∃ m', m' < m ∧ W (i + 1) m' H') ∧ ∀ x H', J.yld i H x H' → g x (wipe σ vs) H' fun σ2 H2 => wipe σ2 vs = wipe σ vs ∧ t σ2 H2 fun b H3 =>
        if b = true then te σ2 H3 fun y H4 => ∃ acc, H4 D = some (.lst acc) ∧ acc.length < sizeLine ∧ Nx (upd H4 D (.lst (acc ++ [y]))) else Nx H3) := by
  intro D hD
  have hlen : ∀ i, ((List.range i).filterMap f).length ≤ i := fun i => by
    have h := List.length_filterMap_le f (List.range i)
    rwa [List.length_range] at h
  refine lc_it w (fun i H => Ex H1 H ∧ H D = some (.lst ((List.range i).filterMap f))) ⟨Evl.Ex.new hD, upd_same⟩ (fun i H _ p => hG H p.1) ?_ (fun H p => hq D H hD p.1 p.2)
  rintro i x H H' hi ⟨e, p⟩ y
  have eY := hY i H x H' hi y
  refine hs i x H H' hi e y _ _ (fun H4 e4 v hv => ⟨_, e4 _ _ (eY _ _ p), ?_, ?_⟩) fun H4 e4 hv => ?_
  · have h1 := hlen i
    rw [sizeLine_eq]
    omega
  · refine ⟨Evl.Ex.mut ((e.trans eY).trans e4) hD, ?_⟩
    rw [upd_same, List.range_succ, List.filterMap_append]
    simp [hv]
  · refine ⟨(e.trans eY).trans e4, ?_⟩
    rw [e4 _ _ (eY _ _ p), List.range_succ, List.filterMap_append]
    simp [hv]
theorem lc_map {J : It} {n : Nat} {G : Hp → Prop} {Y : Nat → Hp → V → Hp → Prop} (w : Walk J n G Y) {vs : List Nat} {H1 : Hp} {Qd : Addr → Hp → Prop} (hn : n ≤ 1000000) (f : Nat → V) (hG : ∀ H', Ex H1 H' → G H') (hY : ∀ i H x H', i < n → Y i H x H' → Ex H H')
    (hs : ∀ i x H H', i < n → Ex H1 H → Y i H x H' → ∀ (R : V → Hp → Prop), (∀ H4, Ex H' H4 → R (f i) H4) → g x (wipe σ vs) H' fun σ2 H2 => wipe σ2 vs = wipe σ vs ∧ te σ2 H2 R)
    (hq : ∀ D H', H1 D = none → Ex H1 H' → H' D = some (.lst ((List.range n).map f)) → Qd D H') (hg : ∀ x σ H (P P' : L2.St → Hp → Prop), (∀ σ H, P σ H → P' σ H) → g x σ H P → g x σ H P') :
    ∀ D, H1 D = none → ∃ W : Nat → Nat → Hp → Prop, (∃ m, W 0 m (upd H1 D (.lst []))) ∧ ∀ i m H, W i m H →
      (J.stop i H ∧ Qd D H) ∨ (J.go i H ∧ ∃ Nx : Hp → Prop, (∀ H', Nx H' → ∃ m', m' < m ∧ W (i + 1) m' H') ∧ ∀ x H', J.yld i H x H' → g x (wipe σ vs) H' fun σ2 H2 => wipe σ2 vs = wipe σ vs ∧ tYes σ2 H2 fun b H3 =>
        if b = true then te σ2 H3 fun y H4 => ∃ acc, H4 D = some (.lst acc) ∧ acc.length < sizeLine ∧ Nx (upd H4 D (.lst (acc ++ [y]))) else Nx H3) := by
  refine lc_fil w hn (fun i => some (f i)) hG hY (fun i x H H' hi e y R S hR _ => ?_) fun D H' hD e p => hq D H' hD e ?_
  · refine hg _ _ _ _ _ (fun σ2 H2 z => ?_) (hs i x H H' hi e y R fun H4 e4 => hR H4 e4 _ rfl)
    exact ⟨z.1, (iteT z.2 : if true = true then te σ2 H2 R else S H2)⟩
  · rw [p]
    congr 2
    induction n with
    | zero => rfl
    | succ n ih => simp
theorem mono_gn (i : Nat) : ∀ x σ H (P P' : L2.St → Hp → Prop), (∀ σ H, P σ H → P' σ H) → gName i x σ H P → gName i x σ H P' := fun _ _ _ _ _ h q => h _ _ q
theorem small_of {n m : Nat} (h : n ≤ m) (h2 : m ≤ 1000000) : n ≤ sizeLine := by rw [sizeLine_eq]; omega
theorem str_len_app (a b : Str) : (a ++ b).length = a.length + b.length := Array.size_append
theorem sign_len (c : Nat) : (⟨#[c]⟩ : Str).length = 1 := rfl
theorem len_toList (z : Str) : z.cps.toList.length = z.length := Array.length_toList
theorem atI_ltN {l : List Nat} {i : Int} (h0 : 0 ≤ i) (h1 : i < l.length) : atI l i = some (l.getD i.toNat 0) := by
  have e2 : ((i.toNat : Nat) : Int) = i := by omega
  have h3 : i.toNat < l.length := by omega
  have e3 : l[i.toNat]? = some (l.getD i.toNat 0) := by
    rw [List.getD_eq_getElem?_getD, List.getElem?_eq_getElem h3]
    rfl
  have e := atI_nat (xs := l) e3
  rw [e2] at e
  exact e
theorem w_ixSn {z : Str} {i : Int} (h : z.length ≤ sizeLine) (h0 : 0 ≤ i) (h1 : i < z.length) (q : Q (.str ⟨#[z.cps.toList.getD i.toNat 0]⟩) H) : rIxS (.str z) (.int i) H Q :=
  w_ixS h (atI_ltN h0 (by rw [len_toList]; exact h1)) q
def rMulS : R2 := fun x y H Q => ∃ i n, x = .str i ∧ y = .int n ∧ 0 ≤ n ∧ n ≤ 1000 ∧ i.length ≤ 1000 ∧ ∀ z : Str, z.length ≤ i.length * n.toNat → Q (.str z) H
abbrev aMulS := tOp rMulS
theorem rep_size (x : Array Nat) : ∀ (n : Nat) (a : Array Nat), ((List.replicate n x).foldl (· ++ ·) a).size = a.size + n * x.size
  | 0, a => by simp
  | n + 1, a => by
    rw [List.replicate_succ, List.foldl_cons, rep_size x n (a ++ x), Array.size_append, Nat.succ_mul]
    omega
theorem op_mulS {X : Cx} : OpR X (binaryOp .Mult) rMulS := by
  intro pins s σ H x y v u Q I rx ry h
  obtain ⟨i, n, rfl, rfl, h0, h1, hi, q⟩ := h
  obtain ⟨t, rfl⟩ := rx
  obtain ⟨t', rfl⟩ := ry
  have hm : i.length * n.toNat ≤ 1000000 := by
    have := Nat.mul_le_mul hi (show n.toNat ≤ 1000 by omega)
    omega
  refine PySem.P.mul_str ?_ ?_ ?_ ?_
  · rw [decide_eq_false (by omega), decide_eq_false (by omega)]; rfl
  · intro h2 _ h3
    have h4 : 1 ≤ n := by omega
    have h5 : (2 ^ 63 - 1) / n ≥ (2 ^ 63 - 1) / 1000 := by
      have : n * ((2 ^ 63 - 1) / 1000) ≤ 2 ^ 63 - 1 := by
        have := Int.mul_le_mul_of_nonneg_right h1 (show (0 : Int) ≤ (2 ^ 63 - 1) / 1000 by decide)
        omega
      exact (Int.le_ediv_iff_mul_le (by omega)).mpr (by rw [Int.mul_comm]; exact this)
    have h6 : ((2 ^ 63 - 1) / 1000 : Int) > 1000 := by decide
    omega
  · intro _ _
    refine decide_eq_false ?_
    have := sizeLine_eq
    omega
  · split
    · exact ⟨by decide, .str Str.empty, H, I.tok _, ⟨_, rfl⟩, q _ (Nat.zero_le _)⟩
    · split
      · rename_i h2 h3
        rcases Bool.or_eq_true_iff.mp h3 with e | e
        · have e' : n = 1 := by simpa using e
          exact ⟨.str i, H, I, ⟨_, rfl⟩, q _ (by rw [e']; show i.length ≤ i.length * 1; omega)⟩
        · have e' : i.length = 0 := by simpa using e
          exact ⟨.str i, H, I, ⟨_, rfl⟩, q _ (by rw [e']; omega)⟩
      · have e := rep_size i.cps n.toNat #[]
        have e' : (⟨(List.replicate n.toNat i.cps).foldl (· ++ ·) #[]⟩ : Str).length = i.length * n.toNat := by
          show ((List.replicate n.toNat i.cps).foldl (· ++ ·) #[]).size = i.cps.size * n.toNat
          rw [e, Nat.mul_comm]; simp
        exact ⟨by rw [e', sizeLine_eq]; omega, .str _, H, I.tok _, ⟨_, rfl⟩, q _ (Nat.le_of_eq e')⟩
theorem w_m1 {r : V → List V → Hp → VK → Prop} (q : ta σ H fun x H1 => (∃ a, x = .str a) ∧ te σ H1 fun y H2 => r x [y] H2 Q) : tM1 r ta te σ H Q := q
theorem w_isS {a : Str} {B : Prop} (q : B) : (∃ b, V.str a = .str b) ∧ B := ⟨⟨a, rfl⟩, q⟩
theorem log_small {i : Int} (h0 : 0 ≤ i) (h : i < 2 ^ 1000) : i.natAbs.log2 < 1920 := by
  by_cases e : i.natAbs = 0
  · rw [e]; decide
  · rw [Nat.log2_lt e]
    have h1 : (i.natAbs : Int) = i := by omega
    have h2 : ((2 ^ 1000 : Nat) : Int) = (2 : Int) ^ 1000 := by norm_cast
    have h3 : i.natAbs < 2 ^ 1000 := by
      have : ((i.natAbs : Nat) : Int) < ((2 ^ 1000 : Nat) : Int) := by rw [h1, h2]; exact h
      exact Int.ofNat_lt.mp this
    exact Nat.lt_of_lt_of_le h3 (Nat.pow_le_pow_right (by decide) (by decide))
theorem w_strI {i : Int} (h : i.natAbs.log2 < 1920) (q : Q (.str (toString i)) H) : rStrI [.int i] H Q := ⟨i, rfl, h, q⟩
theorem w_strL {i : Int} (h0 : 0 ≤ i) (h : i < 2 ^ 1000) (q : ∀ z : Str, z.length ≤ 1921 → Q (.str z) H) : rStrI [.int i] H Q := w_strI (log_small h0 h) (q _ (PyProof.Rows.int_text_len_1921 (log_small h0 h)))
theorem w_mulS {z : Str} {n : Int} (h0 : 0 ≤ n) (h1 : n ≤ 1000) (hi : z.length ≤ 1000) (q : ∀ y : Str, y.length ≤ z.length * n.toNat → Q (.str y) H) : rMulS (.str z) (.int n) H Q := ⟨z, n, rfl, rfl, h0, h1, hi, q⟩
def rFld (K : PySem.W.Frag) (f : Str) (x : V) (H : Hp) (Q : VK) : Prop := ∃ a C dx fs v, x = .ref a ∧ H a = some (.ins C dx fs) ∧ Cls K C ∧ NoAttr K C f ∧ fs.lookup f = some v ∧ Q v H
theorem w_tFld {f : Str} (q : ta σ H fun x H1 => rFld K f x H1 Q) : tFld K ta f σ H Q := q
theorem w_fld {f : Str} {p C dx : Addr} {fs : List (Str × V)} (h : H p = some (.ins C dx fs)) (c : Cls K C) (n : NoAttr K C f) (l : fs.lookup f = some v) (q : Q v H) : rFld K f (.ref p) H Q := ⟨p, C, dx, fs, v, rfl, h, c, n, l, q⟩
def rSFld (K : PySem.W.Frag) (f : Str) (y x : V) (H : Hp) (R : Hp → Prop) : Prop := ∃ a C dx fs, x = .ref a ∧ H a = some (.ins C dx fs) ∧ Cls K C ∧ NoAttr K C f ∧ fs.length < 1000 ∧ R (upd H a (.ins C dx (putF f y fs)))
theorem w_sFld {f : Str} {tv : TE} (q : tv σ H fun y H1 => ta σ H1 fun x H2 => rSFld K f y x H2 fun H3 => D.nx σ H3) : sFld K ta tv f D σ H := q
theorem w_rsFld {f : Str} {p C dx : Addr} {fs fs' : List (Str × V)} {R : Hp → Prop} (h : H p = some (.ins C dx fs)) (c : Cls K C) (n : NoAttr K C f) (l : fs.length < 1000) (e : putF f y fs = fs') (q : R (upd H p (.ins C dx fs'))) : rSFld K f y (.ref p) H R :=
  ⟨p, C, dx, fs, rfl, h, c, n, l, e ▸ q⟩
def rDGet (x y : V) (H : Hp) (Q : VK) : Prop := ∃ a v, x = .ref a ∧ DGet H a y (some v) ∧ Q v H
theorem w_tDGet {td ty : TE} (q : td σ H fun x H1 => ty σ H1 fun y H2 => rDGet x y H2 Q) : tDGet td ty σ H Q := q
theorem w_dgetI {p : Addr} {kvs : List (Key × V)} {k : Int} (h : H p = some (.dK kvs)) (e : valV kvs (.inl k) = some v) (q : Q v H) : rDGet (.ref p) (.int k) H Q := ⟨p, v, rfl, e ▸ DGet.k (k := .inl k) h, q⟩
theorem w_dgetS {p : Addr} {kvs : List (Key × V)} {k : Str} (h : H p = some (.dK kvs)) (e : valV kvs (.inr k) = some v) (q : Q v H) : rDGet (.ref p) (.str k) H Q := ⟨p, v, rfl, e ▸ DGet.k (k := .inr k) h, q⟩
def rDIn (y x : V) (H : Hp) (Q : VK) : Prop := ∃ a o, x = .ref a ∧ DGet H a y o ∧ Q (.bl o.isSome) H
theorem w_tDIn {td ty : TE} (q : ty σ H fun y H1 => td σ H1 fun x H2 => rDIn y x H2 Q) : tDIn ty td σ H Q := q
theorem w_dinI {p : Addr} {kvs : List (Key × V)} {k : Int} (h : H p = some (.dK kvs)) (q : Q (.bl (valV kvs (.inl k)).isSome) H) : rDIn (.int k) (.ref p) H Q := ⟨p, _, rfl, DGet.k (k := .inl k) h, q⟩
def rDNotIn (y x : V) (H : Hp) (Q : VK) : Prop := ∃ a o, x = .ref a ∧ DGet H a y o ∧ Q (.bl (!o.isSome)) H
theorem w_tDNotIn {td ty : TE} (q : ty σ H fun y H1 => td σ H1 fun x H2 => rDNotIn y x H2 Q) : tDNotIn ty td σ H Q := q
def rDPut (v x y : V) (H : Hp) (R : Hp → Prop) : Prop := ∃ a H4, x = .ref a ∧ DPut H a y v H4 ∧ R H4
theorem w_sDPut {td ty tv : TE} (q : tv σ H fun v H1 => td σ H1 fun x H2 => ty σ H2 fun y H3 => rDPut v x y H3 fun H4 => D.nx σ H4) : sDPut td ty tv D σ H := q
theorem w_dputI {p : Addr} {kvs : List (Key × V)} {k : Int} {R : Hp → Prop} (h : H p = some (.dK kvs)) (l : kvs.length < sizeLine) (q : R (upd H p (.dK (putK kvs (.inl k) v)))) : rDPut v (.ref p) (.int k) H R := ⟨p, _, rfl, DPut.k (k := .inl k) h l, q⟩
theorem w_dputS {p : Addr} {kvs : List (Key × V)} {k : Str} {R : Hp → Prop} (h : H p = some (.dK kvs)) (l : kvs.length < sizeLine) (q : R (upd H p (.dK (putK kvs (.inr k) v)))) : rDPut v (.ref p) (.str k) H R := ⟨p, _, rfl, DPut.k (k := .inr k) h l, q⟩
theorem w_bm {T : String} {r : V → List V → Hp → VK → Prop} {t : TA} (q : te σ H fun x H1 => tyV K T x H1 ∧ t σ H1 fun xs H2 => r x xs H2 Q) : tBM K T r te t σ H Q := q
theorem w_bm0 {T : String} {r : V → List V → Hp → VK → Prop} (q : te σ H fun x H1 => tyV K T x H1 ∧ r x [] H1 Q) : tBM0 K T r te σ H Q := q
theorem w_tyL {p : Addr} {xs : List V} {B : Prop} (h : SqL K H p xs) (q : B) : tyV K "list" (.ref p) H ∧ B := ⟨.inl ⟨rfl, xs, h⟩, q⟩
theorem w_app {l : Addr} {xs : List V} (h : H l = some (.lst xs)) (hl : xs.length < sizeLine) (q : Q .non (upd H l (.lst (xs ++ [y])))) : rAppend (.ref l) [y] H Q := ⟨l, xs, y, rfl, rfl, h, hl, q⟩
theorem w_pop {l : Addr} {xs : List V} (h : H l = some (.lst (xs ++ [y]))) (q : Q y (upd H l (.lst xs))) : rPop (.ref l) [] H Q := ⟨l, xs ++ [y], y, rfl, rfl, h, by simp, by rw [List.dropLast_concat]; exact q⟩
theorem w_ext {l b : Addr} {xs zs : List V} (h : H l = some (.lst xs)) (hb : H b = some (.lst zs)) (hl : xs.length + zs.length ≤ sizeLine) (q : Q .non (upd H l (.lst (xs ++ zs)))) : rExtend (.ref l) [.ref b] H Q := ⟨l, b, xs, zs, rfl, rfl, h, hb, hl, q⟩
theorem w_clr {l : Addr} {xs : List V} (h : H l = some (.lst xs)) (q : Q .non (upd H l (.lst []))) : rClear (.ref l) [] H Q := ⟨l, xs, rfl, rfl, h, q⟩
def rRev (K : PySem.W.Frag) (vs : List V) (H : Hp) (R : It → Hp → Prop) : Prop := ∃ (a : Addr) (xs : List V), vs = [.ref a] ∧ SqL K H a xs ∧ R (Itv K a xs.length) H
theorem w_iRev {ta : TA} {R : It → Hp → Prop} (q : ta σ H fun vs H1 => rRev K vs H1 R) : iRev K ta σ H R := q
theorem w_rev1 {p : Addr} {xs : List V} {R : It → Hp → Prop} (h : SqL K H p xs) (q : R (Itv K p xs.length) H) : rRev K [.ref p] H R := ⟨p, xs, rfl, h, q⟩
def rItems (x : V) (H : Hp) (R : It → Hp → Prop) : Prop := ∃ d o kvs, x = .ref d ∧ H d = some (.frz o (.dK kvs)) ∧ R (Iti d o kvs) H
theorem w_iItems {R : It → Hp → Prop} (q : te σ H fun x H1 => rItems x H1 R) : iItems te σ H R := q
theorem w_items1 {p : Addr} {o : Obj} {kvs : List (Key × V)} {R : It → Hp → Prop} (h : H p = some (.frz o (.dK kvs))) (q : R (Iti p o kvs) H) : rItems (.ref p) H R := ⟨p, o, kvs, rfl, h, q⟩
def rKeys (x : V) (H : Hp) (R : It → Hp → Prop) : Prop := ∃ d o, x = .ref d ∧ ((∃ kvs, H d = some (.frz o (.dK kvs)) ∧ R (Itk d o kvs) H) ∨ ∃ kvs, H d = some (.frz o (.dT kvs)) ∧ R (Itkt d o kvs) H)
theorem w_iKeys {R : It → Hp → Prop} (q : te σ H fun x H1 => rKeys x H1 R) : iKeys te σ H R := q
theorem w_keys1 {p : Addr} {o : Obj} {kvs : List (Key × V)} {R : It → Hp → Prop} (h : H p = some (.frz o (.dK kvs))) (q : R (Itk p o kvs) H) : rKeys (.ref p) H R := ⟨p, o, rfl, .inl ⟨kvs, h, q⟩⟩
def rRng3 (vs : List V) (H : Hp) (R : It → Hp → Prop) : Prop := ∃ (i j c : Int) (n : Nat), vs = [.int i, .int j, .int c] ∧ RgC i j c n ∧ R (Itc i c n) H
theorem w_iRng3 {ta : TA} {R : It → Hp → Prop} (q : ta σ H fun vs H1 => rRng3 vs H1 R) : iRng3 ta σ H R := q
def rZip (K : PySem.W.Frag) (vs : List V) (H : Hp) (R : It → Hp → Prop) : Prop := ∃ a b xs ys, vs = [.ref a, .ref b] ∧ SqL K H a xs ∧ SqL K H b ys ∧ R (Itz K a b) H
theorem w_iZip {ta : TA} {R : It → Hp → Prop} (q : ta σ H fun vs H1 => rZip K vs H1 R) : iZip K ta σ H R := q
theorem w_zip1 {p q : Addr} {xs ys : List V} {R : It → Hp → Prop} (h : SqL K H p xs) (h2 : SqL K H q ys) (k : R (Itz K p q) H) : rZip K [.ref p, .ref q] H R := ⟨p, q, xs, ys, rfl, h, h2, k⟩
theorem w_gCons {u : TGs} {x : V} {xs : List V} {Q : L2.St → Hp → Prop} (q : g x σ H fun σ' H' => u xs σ' H' Q) : gCons g u (x :: xs) σ H Q := ⟨x, xs, rfl, q⟩
theorem w_gNil {Q : L2.St → Hp → Prop} (q : Q σ H) : gNil [] σ H Q := ⟨rfl, q⟩
theorem w_gTup {n : Nat} {u : TGs} {p : Addr} {xs : List V} {Q : L2.St → Hp → Prop} (h : SqT K H p xs) (l : xs.length = n) (q : u xs σ H Q) : gTup K n u (.ref p) σ H Q := ⟨p, xs, rfl, h, l, q⟩
theorem w_sortD {p : Addr} {kvs : List (Key × V)} {ks : List Int} (h : H p = some (.dK kvs)) (e : kvs.map (·.1) = ks.map Sum.inl) (l : ks.length < 64) (q : ∀ (ys : List Int) (p : Addr), ys.Perm ks → ys.Pairwise (· ≤ ·) → H p = none → Q (.ref p) (upd H p (.lst (ys.map V.int)))) : rSortedD [.ref p] H Q :=
  ⟨p, kvs, ks, rfl, .inl h, e, l, q⟩
theorem w_lock (q : ∃ d u, H d = some u ∧ Mut (some u) ∧ ∀ od, ts ⟨fun σ' H' => H' d = some (.frz od u) ∧ D.nx σ' (upd H' d u), fun v H' => H' d = some (.frz od u) ∧ D.rt v (upd H' d u), fun σ' H' => H' d = some (.frz od u) ∧ D.bk σ' (upd H' d u), fun σ' H' => H' d = some (.frz od u) ∧ D.ct σ' (upd H' d u)⟩ σ (upd H d (.frz od u))) : tLock ts D σ H := q
def del (H : Hp) (p : Addr) : Hp := fun a => if a = p then none else H a
theorem del_same {p : Addr} : del H p p = none := by unfold del; rw [if_pos rfl]
theorem del_ne {p a : Addr} (h : a ≠ p) : del H p a = H a := by unfold del; rw [if_neg h]
theorem del_ex {p : Addr} : Ex (del H p) H := fun a o h => by
  by_cases e : a = p
  · subst e; rw [del_same] at h; cases h
  · rwa [del_ne e] at h
theorem del_mono {p : Addr} (e : Ex H H') : Ex (del H p) (del H' p) := fun a o h => by
  by_cases q : a = p
  · subst q; rw [del_same] at h; cases h
  · rw [del_ne q] at h ⊢; exact e a o h
theorem del_upd {p : Addr} {o : HO} : del (upd H p o) p = del H p := by
  funext a
  by_cases q : a = p
  · subst q; rw [del_same, del_same]
  · rw [del_ne q, del_ne q, upd_ne q]
theorem ex_del {p : Addr} (e : Ex H H') (h : H p = none) : Ex H (del H' p) := fun a o q => by
  rw [del_ne (ne_of_none q h)]; exact e a o q
theorem lc_relF {J : It} {n : Nat} {G : Hp → Prop} {Y : Nat → Hp → V → Hp → Prop} (w : Walk J n G Y) {vs : List Nat} {H1 : Hp} {Qd : Addr → Hp → Prop} (hn : n ≤ 1000000) (p : Nat → Bool) (Rl : Nat → V → Hp → Prop) (mono : ∀ i v H H', Ex H H' → Rl i v H → Rl i v H')
    (hG : ∀ H', Ex H1 H' → G H') (hY : ∀ i H x H', i < n → Y i H x H' → Ex H H')
    (hs : ∀ D i x H H', H1 D = none → i < n → Ex H1 (del H D) → (∃ o, H D = some o) → Y i H x H' → ∀ (R : V → Hp → Prop) (S : Hp → Prop), (∀ v H4, Ex H' H4 → p i = true → Rl i v (del H4 D) → R v H4) → (∀ H4, Ex H' H4 → p i = false → S H4) →
      g x (wipe σ vs) H' fun σ2 H2 => wipe σ2 vs = wipe σ vs ∧ t σ2 H2 fun b H3 => if b = true then te σ2 H3 R else S H3)
    (hq : ∀ D H' xs, H1 D = none → Ex H1 H' → H' D = some (.lst xs) → xs.length = ((List.range n).filter p).length → (∀ (j : Nat) (v : V) (i : Nat), xs[j]? = some v → ((List.range n).filter p)[j]? = some i → Rl i v (del H' D)) → Qd D H') :
    ∀ D, H1 D = none → ∃ W : Nat → Nat → Hp → Prop, (∃ m, W 0 m (upd H1 D (.lst []))) ∧ ∀ i m H, W i m H →
      (J.stop i H ∧ Qd D H) ∨ (J.go i H ∧ ∃ Nx : Hp → Prop, (∀ H', Nx H' → ∃ m', m' < m ∧ W (i + 1) m' H') ∧ ∀ x H', J.yld i H x H' → g x (wipe σ vs) H' fun σ2 H2 => wipe σ2 vs = wipe σ vs ∧ t σ2 H2 fun b H3 =>
        if b = true then te σ2 H3 fun y H4 => ∃ acc, H4 D = some (.lst acc) ∧ acc.length < sizeLine ∧ Nx (upd H4 D (.lst (acc ++ [y]))) else Nx H3) := by
  intro D hD
  have hlen : ∀ i, ((List.range i).filter p).length ≤ i := fun i => by
    have h := List.length_filter_le p (List.range i)
    rwa [List.length_range] at h
  refine lc_it w (fun i H => Ex H1 (del H D) ∧ ∃ xs, H D = some (.lst xs) ∧ xs.length = ((List.range i).filter p).length ∧ ∀ (j : Nat) (v : V) (k : Nat), xs[j]? = some v → ((List.range i).filter p)[j]? = some k → Rl k v (del H D)) ⟨ex_del (Evl.Ex.new hD) hD, [], upd_same, rfl, fun j v k h => by simp at h⟩ (fun i H _ q => hG H (q.1.trans del_ex)) ?_
    (fun H q => by obtain ⟨e, xs, h1, h2, h3⟩ := q; exact hq D H xs hD (e.trans del_ex) h1 h2 h3)
  rintro i x H H' hi ⟨e, xs, h1, h2, h3⟩ y
  have eY := hY i H x H' hi y
  have hl := hlen i
  refine hs D i x H H' hD hi e ⟨_, h1⟩ y _ _ (fun v H4 e4 hp hv => ?_) fun H4 e4 hp => ?_
  · have er : (List.range (i + 1)).filter p = (List.range i).filter p ++ [i] := by rw [List.range_succ, List.filter_append]; simp [hp]
    refine ⟨xs, e4 _ _ (eY _ _ h1), by rw [sizeLine_eq]; omega, by rw [del_upd]; exact e.trans (del_mono (eY.trans e4)), xs ++ [v], upd_same, by rw [er]; simp [h2], fun j v' k hj hk => ?_⟩
    rw [del_upd]
    rw [er] at hk
    by_cases q : j < xs.length
    · rw [List.getElem?_append_left q] at hj
      rw [List.getElem?_append_left (by omega)] at hk
      exact mono k v' _ _ (del_mono (eY.trans e4)) (h3 j v' k hj hk)
    · have q2 : j = xs.length := by
        have := (List.getElem?_eq_some_iff.mp hj).1
        simp at this; omega
      subst q2
      have e5 : v = v' := by simpa using hj
      rw [h2] at hk
      have e6 : i = k := by simpa using hk
      subst e5 e6
      exact hv
  · have er : (List.range (i + 1)).filter p = (List.range i).filter p := by rw [List.range_succ, List.filter_append]; simp [hp]
    refine ⟨e.trans (del_mono (eY.trans e4)), xs, e4 _ _ (eY _ _ h1), by rw [er]; exact h2, fun j v' k hj hk => ?_⟩
    rw [er] at hk
    exact mono k v' _ _ (del_mono (eY.trans e4)) (h3 j v' k hj hk)
theorem filter_yes (n : Nat) : (List.range n).filter (fun _ => true) = List.range n := List.filter_eq_self.mpr fun _ _ => rfl
theorem lc_rel {J : It} {n : Nat} {G : Hp → Prop} {Y : Nat → Hp → V → Hp → Prop} (w : Walk J n G Y) {vs : List Nat} {H1 : Hp} {Qd : Addr → Hp → Prop} (hn : n ≤ 1000000) (Rl : Nat → V → Hp → Prop) (mono : ∀ i v H H', Ex H H' → Rl i v H → Rl i v H')
    (hG : ∀ H', Ex H1 H' → G H') (hY : ∀ i H x H', i < n → Y i H x H' → Ex H H')
    (hs : ∀ D i x H H', H1 D = none → i < n → Ex H1 (del H D) → (∃ o, H D = some o) → Y i H x H' → ∀ (R : V → Hp → Prop), (∀ v H4, Ex H' H4 → Rl i v (del H4 D) → R v H4) → g x (wipe σ vs) H' fun σ2 H2 => wipe σ2 vs = wipe σ vs ∧ te σ2 H2 R)
    (hq : ∀ D H' xs, H1 D = none → Ex H1 H' → H' D = some (.lst xs) → xs.length = n → (∀ (i : Nat) (v : V), xs[i]? = some v → Rl i v (del H' D)) → Qd D H') (hg : ∀ x σ H (P P' : L2.St → Hp → Prop), (∀ σ H, P σ H → P' σ H) → g x σ H P → g x σ H P') :
    ∀ D, H1 D = none → ∃ W : Nat → Nat → Hp → Prop, (∃ m, W 0 m (upd H1 D (.lst []))) ∧ ∀ i m H, W i m H →
      (J.stop i H ∧ Qd D H) ∨ (J.go i H ∧ ∃ Nx : Hp → Prop, (∀ H', Nx H' → ∃ m', m' < m ∧ W (i + 1) m' H') ∧ ∀ x H', J.yld i H x H' → g x (wipe σ vs) H' fun σ2 H2 => wipe σ2 vs = wipe σ vs ∧ tYes σ2 H2 fun b H3 =>
        if b = true then te σ2 H3 fun y H4 => ∃ acc, H4 D = some (.lst acc) ∧ acc.length < sizeLine ∧ Nx (upd H4 D (.lst (acc ++ [y]))) else Nx H3) := by
  refine lc_relF w hn (fun _ => true) Rl mono hG hY (fun D i x H H' h1 hi e hD y R S hR _ => ?_) fun D H' xs hD e h1 h2 h3 => ?_
  · refine hg _ _ _ _ _ (fun σ2 H2 z => ?_) (hs D i x H H' h1 hi e hD y R fun v H4 e4 hv => hR v H4 e4 rfl hv)
    exact ⟨z.1, iteT (B := S H2) z.2⟩
  · rw [filter_yes, List.length_range] at h2
    refine hq D H' xs hD e h1 h2 fun i v hv => h3 i v i hv ?_
    have := (List.getElem?_eq_some_iff.mp hv).1
    rw [filter_yes]
    exact List.getElem?_range (by omega)
theorem ne2 {a b : Addr} {o : HO} (h' : H b = none) (h : H a = some o) : a ≠ b := ne_of_none h h'
theorem ne2s {a b : Addr} {o : HO} (h' : H b = none) (h : H a = some o) : b ≠ a := Ne.symm (ne_of_none h h')
theorem up_ne {a b : Addr} {o u : HO} (h : b ≠ a) (h2 : H b = some u) : upd H a o b = some u := by rw [upd_ne h]; exact h2
theorem ne_head {a b : Addr} {l : List Addr} (h : a ∉ b :: l) : a ≠ b := fun e => h (e ▸ List.mem_cons_self)
theorem not_tail {a b : Addr} {l : List Addr} (h : a ∉ b :: l) : a ∉ l := fun m => h (List.mem_cons_of_mem _ m)
theorem putF_nil {f : Str} : putF f v [] = [(f, v)] := rfl
theorem putF_hit {f : Str} {w : V} {r : List (Str × V)} : putF f v ((f, w) :: r) = (f, v) :: r := by
  show (if f = f then _ else _) = _
  rw [if_pos rfl]
theorem putF_miss {f k : Str} {w : V} {r r' : List (Str × V)} (h : ¬ k = f) (e : putF f v r = r') : putF f v ((k, w) :: r) = (k, w) :: r' := by
  show (if k = f then _ else (k, w) :: putF f v r) = _
  rw [if_neg h, e]
theorem ty_list {p : Addr} {xs : List V} (h : SqL K H p xs) : TyX K H (.ref p) (.type "list") := by
  rcases h with (h | ⟨o, h⟩) | ⟨o, its, n, hk, hc, _⟩
  · exact .base (.lst h)
  · exact .base (.frz h)
  · exact .kList hk hc
theorem ty_tup {p : Addr} {xs : List V} (h : SqT K H p xs) : TyX K H (.ref p) (.type "tuple") := by
  rcases h with (h | ⟨o, h⟩) | ⟨o, its, n, hk, hc, _⟩
  · exact .base (.tup h)
  · exact .fTuple h
  · exact .kTuple hk hc
theorem w_isiSL {n : String} {b : Bool} {p : Addr} {xs : List V} (h : SqL K H p xs) (e : kitB "list" n = some b) (q : Q (.bl b) H) : rIsi K [.ref p, .ty n] H Q := w_isi (.ty n) (ty_list h) (kit_ty e) q
theorem w_isiST {n : String} {b : Bool} {p : Addr} {xs : List V} (h : SqT K H p xs) (e : kitB "tuple" n = some b) (q : Q (.bl b) H) : rIsi K [.ref p, .ty n] H Q := w_isi (.ty n) (ty_tup h) (kit_ty e) q
theorem w_ixAL {p : Addr} {xs : List V} {i : Int} (h : SqL K H p xs) (a : atI xs i = some v) (q : Q v H) : rIx K (.ref p) (.int i) H Q := .inl (w_ixL h a q)
theorem w_ixAT {p : Addr} {xs : List V} {i : Int} (h : SqT K H p xs) (a : atI xs i = some v) (q : Q v H) : rIx K (.ref p) (.int i) H Q := .inr (.inl (w_ixT h a q))
theorem fnok_no {P : Program} {w : World} {mg : Str → Option Value} {base : Heap} {CX : CXT} {k : Nat} {f : Addr} {fd : FuncData} {ps : List Str} {sp : Sp} (h : ∀ vs H Q E, ¬ sp vs H Q E) : FnOk P w K mg base CX k f fd ps sp :=
  ⟨fun vs H Q E q => (h vs H Q E q).elim, fun _ _ _ H _ _ vs Q E _ _ _ _ q => (h vs H Q E q).elim⟩
theorem menu_item {xs : List V} {i : Int} {P : V → Prop} (h0 : 0 ≤ i) (h1 : i < xs.length) (h : ∀ x ∈ xs, P x) : ∃ v, atI xs i = some v ∧ P v :=
  ⟨_, atI_lt h0 h1, by
    rw [List.getD_eq_getElem?_getD, List.getElem?_eq_getElem (by omega)]
    exact h _ (List.getElem_mem _)⟩
end
end RT

set_option Elab.async false
set_option linter.all false
set_option maxRecDepth 100000
set_option maxHeartbeats 4000000
set_option autoImplicit false
namespace RT
open PySem L2
local macro_rules | `(tactic| walk_at "putf") => `(tactic| first | exact putF_nil | exact putF_hit | exact putF_miss (by decide) (by walk_at "putf"))
local macro_rules | `(tactic| walk_at "ne") => `(tactic| first | assumption | exact Ne.symm (by assumption) | ((refine' ne2 ?h1 ?h2); (case h1 => assumption); (case h2 => walk_at "hk")) | ((refine' ne2s ?h1 ?h2); (case h1 => assumption); (case h2 => walk_at "hk")) | exact ne_head (by assumption) | exact ne_of (by assumption) (by assumption) (by intro z; cases z))
local macro_rules | `(tactic| walk_at "hk") => `(tactic| first | assumption | with_reducible exact upd_same | ((with_reducible refine' up_ne ?h1 ?h2); (case h1 => walk_at "ne"); (case h2 => walk_at "hk")) | ((with_reducible refine' ex_at ?h1 ?h2); (case h1 => assumption); (case h2 => walk_at "hk")))
local macro_rules | `(tactic| walk_at "kit") => `(tactic| first | exact kit_int_int | exact kit_int_bool | exact kit_int_str | exact kit_int_list | exact kit_int_tuple | exact kit_int_dict | exact kit_bool_int | exact kit_bool_bool | exact kit_bool_str | exact kit_bool_list | exact kit_bool_tuple | exact kit_bool_dict | exact kit_str_int | exact kit_str_bool | exact kit_str_str | exact kit_str_list | exact kit_str_tuple | exact kit_str_dict | exact kit_NoneType_int | exact kit_NoneType_bool | exact kit_NoneType_str | exact kit_NoneType_list | exact kit_NoneType_tuple | exact kit_NoneType_dict | exact kit_list_int | exact kit_list_bool | exact kit_list_str | exact kit_list_list | exact kit_list_tuple | exact kit_list_dict | exact kit_tuple_int | exact kit_tuple_bool | exact kit_tuple_str | exact kit_tuple_list | exact kit_tuple_tuple | exact kit_tuple_dict | exact kit_dict_int | exact kit_dict_bool | exact kit_dict_str | exact kit_dict_list | exact kit_dict_tuple | exact kit_dict_dict)
local macro_rules | `(tactic| walk_at "sq") => `(tactic| first | assumption | ((with_reducible refine' SqL.of ?h); (case h => walk_at "hk")) | ((with_reducible refine' ex_sq ?h1 ?h2); (case h1 => assumption); (case h2 => walk_at "sq")))
local macro_rules | `(tactic| walk_at "st") => `(tactic| first | assumption | ((with_reducible refine' SqT.of ?h); (case h => walk_at "hk")) | ((with_reducible refine' ex_st ?h1 ?h2); (case h1 => assumption); (case h2 => walk_at "st")))
local macro_rules | `(tactic| walk_at "new") => `(tactic| (intro p hp; generalize hU : upd _ p _ = H'; have e1 := new_ex hp hU; have e2 := new_at hU; clear hU))
local macro_rules | `(tactic| walk_at "set") => `(tactic| ((try simp only [List.set_cons_succ, List.set_cons_zero]); rfl))
local macro_rules | `(tactic| walk_at "small") => `(tactic| first | assumption | (rw [sizeLine_eq]; (try simp only [List.length_cons, List.length_nil, str_len_app, sign_len]); omega) | (with_unfolding_all decide))
local macro_rules | `(tactic| walk_at "sc") => `(tactic| first | assumption | decide | omega | (unfold CMul; omega) | (unfold CDiv; omega) | (unfold CPow; decide) | (unfold CDiv; decide))
local macro_rules | `(tactic| walk_at "step") => `(tactic| first
  | with_reducible refine' w_seq ?_
  | with_reducible refine' w_op ?_
  | ((with_reducible refine' w_var ?h ?_); (case h => rfl))
  | with_reducible refine' w_c ?_
  | with_reducible refine' w_i0 ?_
  | with_reducible refine' w_cons ?_
  | with_reducible refine' w_nil ?_
  | with_reducible refine' w_asg ?_
  | ((with_reducible refine' w_gn ?e ?_); (case e => walk_at "set"))
  | with_reducible refine' w_ifS ?_
  | with_reducible refine' w_test ?_
  | with_reducible refine' w_tB ?_
  | with_reducible refine' w_bl ?_
  | with_reducible refine' w_int ?_
  | with_reducible refine' w_ref ?_
  | with_reducible refine' w_str ?_
  | with_reducible refine' w_eqI ?_
  | with_reducible refine' w_neI ?_
  | with_reducible refine' w_eqS ?_
  | with_reducible refine' w_neS ?_
  | with_reducible refine' w_ret ?_
  | with_reducible refine' w_for ?_
  | with_reducible refine' w_tFld ?_
  | ((with_reducible refine' w_fld ?h ?c ?n ?l ?_); (case h => walk_at "hk"); (case c => assumption); (case n => assumption); (case l => rfl))
  | with_reducible refine' w_sFld ?_
  | ((with_reducible refine' w_rsFld ?h ?c ?n ?l ?e ?_); (case h => walk_at "hk"); (case c => assumption); (case n => assumption); (case e => walk_at "putf"); (case l => (simp only [List.length_cons, List.length_nil]; omega)))
  | with_reducible refine' w_tDGet ?_
  | with_reducible refine' w_tDIn ?_
  | with_reducible refine' w_tDNotIn ?_
  | ((with_reducible refine' w_dinI ?h ?_); (case h => walk_at "hk"))
  | with_reducible refine' w_sDPut ?_
  | with_reducible refine' w_bm ?_
  | with_reducible refine' w_bm0 ?_
  | ((with_reducible refine' w_tyL ?h ?_); (case h => walk_at "sq"))
  | with_reducible refine' w_iRev ?_
  | ((with_reducible refine' w_rev1 ?h ?_); (case h => walk_at "sq"))
  | with_reducible refine' w_iItems ?_
  | with_reducible refine' w_iKeys ?_
  | with_reducible refine' w_iRng3 ?_
  | with_reducible refine' w_iZip ?_
  | with_reducible refine' w_gCons ?_
  | with_reducible refine' w_gNil ?_
  | ((with_reducible refine' w_gTup ?h ?l ?_); (case h => walk_at "st"); (case l => rfl))
  | with_reducible refine' w_m1 ?_
  | with_reducible refine' w_isS ?_
  | with_reducible refine' w_lc ?_
  | with_reducible refine' w_iList ?_
  | with_reducible refine' w_iTup ?_
  | with_reducible refine' w_iStr ?_
  | with_reducible refine' w_iRng1 ?_
  | with_reducible refine' w_iRng2 ?_
  | with_reducible refine' w_v1I ?_
  | with_reducible refine' w_v2I ?_
  | with_reducible refine' w_next ?_
  | with_reducible refine' w_call ?_
  | with_reducible refine' w_cb ?_
  | with_reducible refine' w_and ?_
  | with_reducible refine' w_or ?_
  | with_reducible refine' w_not ?_
  | with_reducible refine' w_andV ?_
  | with_reducible refine' w_orV ?_
  | with_reducible refine' w_notV ?_
  | with_reducible refine' w_ifE ?_
  | with_reducible refine' w_drop ?_
  | with_reducible refine' w_un ?_
  | with_reducible refine' w_u ?_
  | with_reducible refine' w_isNN ?_
  | with_reducible refine' w_isNI ?_
  | with_reducible refine' w_isNS ?_
  | with_reducible refine' w_isNR ?_
  | with_reducible refine' w_notNN ?_
  | with_reducible refine' w_notNI ?_
  | with_reducible refine' w_notNS ?_
  | with_reducible refine' w_notNR ?_
  | with_reducible refine' w_int1 ?_
  | with_reducible refine' w_int1b ?_
  | with_reducible refine' w_tup ?_
  | with_reducible refine' w_lst ?_
  | with_reducible refine' w_dnew ?_
  | with_reducible refine' w_sl ?_
  | with_reducible refine' w_noPart ?_
  | with_reducible refine' w_part ?_
  | with_reducible refine' w_retN ?_
  | with_reducible refine' w_brk ?_
  | with_reducible refine' w_cont ?_
  | with_reducible refine' w_chain ?_
  | with_reducible refine' w_lt ?_
  | with_reducible refine' w_le ?_
  | with_reducible refine' w_gt ?_
  | with_reducible refine' w_ge ?_
  | with_reducible refine' w_ltS ?_
  | with_reducible refine' w_leS ?_
  | with_reducible refine' w_gtS ?_
  | with_reducible refine' w_geS ?_
  | ((with_reducible refine' w_addS ?h ?_); (case h => walk_at "small"))
  | with_reducible refine' w_inS ?_
  | with_reducible refine' w_ninS ?_
  | with_reducible refine' w_par ?_
  | with_reducible refine' w_v2 ?_
  | with_reducible refine' w_max2 ?_
  | with_reducible refine' w_min2 ?_
  | with_reducible refine' w_tru ?_
  | with_reducible refine' w_meth ?_
  | ((with_reducible refine' w_meth1 ?h ?l ?_); (case h => walk_at "hk"); (case l => rfl))
  | with_reducible refine' w_make ?_
  | ((with_reducible refine' w_isiI ?h ?_); (case h => walk_at "kit"))
  | ((with_reducible refine' w_isiB ?h ?_); (case h => walk_at "kit"))
  | ((with_reducible refine' w_isiN ?h ?_); (case h => walk_at "kit"))
  | ((with_reducible refine' w_isiS ?h ?_); (case h => walk_at "kit"))
  | ((with_reducible refine' w_isiSL ?h ?e ?_); (case h => walk_at "sq"); (case e => walk_at "kit"))
  | ((with_reducible refine' w_isiST ?h ?e ?_); (case h => walk_at "st"); (case e => walk_at "kit"))
  | ((with_reducible refine' w_i ?h ?_); (case h => walk_at "sc"))
  | with_reducible refine' w_ttL ?_
  | with_reducible refine' w_ffL ?_
  | ((with_reducible refine' w_tt ?h ?_); (case h => first | exact dB_t (by decide) | exact nB_t (by decide) | decide))
  | ((with_reducible refine' w_ff ?h ?_); (case h => first | exact dB_f (by decide) | exact nB_f (by decide) | decide))
  | ((with_reducible refine' w_lenS ?h ?_); (case h => walk_at "sq"))
  | ((with_reducible refine' w_lenT ?h ?_); (case h => walk_at "st"))
  | ((with_reducible refine' w_slL ?h ?_); (case h => walk_at "sq"))
  | ((with_reducible refine' w_aug ?h ?_); (case h => rfl))
  | with_reducible refine' w_ip ?_
  | ((with_reducible refine' w_cat ?h1 ?h2 ?h3 ?_); (case h1 => walk_at "hk"); (case h2 => walk_at "hk"); (case h3 => walk_at "small"))
  | ((with_reducible refine' w_ixL ?h1 ?h2 ?_); (case h1 => walk_at "sq"); (case h2 => rfl))
  | ((with_reducible refine' w_ixT ?h1 ?h2 ?_); (case h1 => walk_at "st"); (case h2 => rfl))
  | ((with_reducible refine' w_lenStr ?h ?_); (case h => walk_at "small"))
  | ((with_reducible refine' w_slS ?h ?_); (case h => walk_at "small"))
  | ((with_reducible refine' w_sz ?h ?_); (case h => walk_at "small")))
local macro_rules | `(tactic| walk_at "go") => `(tactic| (repeat (first | walk_at "step" | walk_at "callx")))
local macro_rules | `(tactic| walk_at "goN") => `(tactic| (repeat (first | walk_at "step" | walk_at "callx" | ((with_reducible show ∀ p, _ = none → _); walk_at "new"))))
local macro_rules | `(tactic| walk_at "len") => `(tactic| first
  | (obtain ⟨rfl, _⟩ := h; rfl) | (obtain ⟨_, rfl, _⟩ := h; rfl) | (obtain ⟨_, _, rfl, _⟩ := h; rfl) | (obtain ⟨_, _, _, rfl, _⟩ := h; rfl) | (obtain ⟨_, _, _, _, rfl, _⟩ := h; rfl)
  | (obtain ⟨_, _, _, _, _, rfl, _⟩ := h; rfl) | (obtain ⟨_, _, _, _, _, _, rfl, _⟩ := h; rfl) | (obtain ⟨_, _, _, _, _, _, _, rfl, _⟩ := h; rfl) | (obtain ⟨_, _, _, _, _, _, _, _, rfl, _⟩ := h; rfl)
  | (obtain ⟨_, _, _, _, _, _, _, _, _, rfl, _⟩ := h; rfl) | (obtain ⟨_, _, _, _, _, _, _, _, _, _, rfl, _⟩ := h; rfl))
local macro_rules | `(tactic| walk_at "dec") => `(tactic| (first | with_reducible apply w_dec | with_reducible apply w_ndec | with_reducible apply w_bool) <;> intro hc)
abbrev Dm := List (Int × Int)
def encM (m : Dm) : List (Key × V) := m.map fun p => (.inl p.1, .int p.2)
def dget (m : Dm) (b : Int) : Option Int := (m.find? fun p => decide (p.1 = b)).map (·.2)
def dput (m : Dm) (b n : Int) : Dm := if (m.any fun p => decide (p.1 = b)) = true then m.map (fun p => if p.1 = b then (p.1, n) else p) else m ++ [(b, n)]
theorem dget_pos {p : Int × Int} {r : Dm} {k : Int} (e : p.1 = k) : dget (p :: r) k = some p.2 := by simp [dget, List.find?_cons, e]
theorem dget_neg {p : Int × Int} {r : Dm} {k : Int} (e : ¬ p.1 = k) : dget (p :: r) k = dget r k := by simp [dget, List.find?_cons, e]
theorem encM_len (m : Dm) : (encM m).length = m.length := List.length_map _
theorem valV_enc : ∀ (m : Dm) (b : Int), valV (encM m) (.inl b : Key) = (dget m b).map V.int
  | [], _ => rfl
  | p :: r, b => by
    have ih := valV_enc r b
    show valV ((Sum.inl p.1, V.int p.2) :: encM r) (.inl b : Key) = _
    by_cases e : p.1 = b
    · rw [valV_pos (by rw [e]), dget_pos e]; rfl
    · rw [valV_neg (fun q => e (Sum.inl.inj q)), dget_neg e, ih]
theorem dget_any (b : Int) : ∀ m : Dm, (m.any fun p => decide (p.1 = b)) = (dget m b).isSome
  | [] => rfl
  | p :: r => by
    rw [List.any_cons]
    by_cases e : p.1 = b
    · rw [dget_pos e, decide_eq_true e]; rfl
    · rw [dget_neg e, decide_eq_false e, Bool.false_or]; exact dget_any b r
theorem putK_enc (m : Dm) (b n : Int) : putK (encM m) (.inl b : Key) (.int n) = encM (dput m b n) := by
  unfold putK dput
  rw [valV_any, valV_enc, dget_any]
  have e : ((dget m b).map V.int).isSome = (dget m b).isSome := by cases dget m b <;> rfl
  rw [e]
  split
  · unfold encM
    rw [List.map_map, List.map_map]
    refine List.map_congr_left fun p _ => ?_
    show (if (Sum.inl p.1 : Key) = .inl b then ((Sum.inl p.1 : Key), V.int n) else (Sum.inl p.1, V.int p.2)) = ((Sum.inl (if p.1 = b then (p.1, n) else p).1 : Key), V.int (if p.1 = b then (p.1, n) else p).2)
    by_cases h : p.1 = b
    · rw [if_pos (by rw [h]), if_pos h]
    · rw [if_neg (fun q => h (Sum.inl.inj q)), if_neg h]
  · unfold encM
    rw [List.map_append]
    rfl
theorem dput_len (m : Dm) (b n : Int) : (dput m b n).length ≤ m.length + 1 := by
  unfold dput
  split <;> simp
theorem dget_put (m : Dm) (b n c : Int) : dget (dput m b n) c = if c = b then some n else dget m c := by
  have h := valV_put (encM m) (.inl b : Key) (.inl c : Key) (.int n)
  rw [putK_enc, valV_enc, valV_enc] at h
  by_cases e : c = b
  · subst e
    rw [if_pos rfl] at h ⊢
    cases g : dget (dput m c n) c with
    | none => rw [g] at h; cases h
    | some y => rw [g] at h; injection h with h; injection h with h; rw [h]
  · rw [if_neg e]
    rw [if_neg (fun q => e (Sum.inl.inj q))] at h
    cases g : dget (dput m b n) c with
    | none =>
      rw [g] at h
      cases g2 : dget m c with
      | none => rfl
      | some y => rw [g2] at h; cases h
    | some y =>
      rw [g] at h
      cases g2 : dget m c with
      | none => rw [g2] at h; cases h
      | some z => rw [g2] at h; injection h with h; injection h with h; rw [h]
def keysM (m : Dm) : List Int := m.map (·.1)
def sortK (m : Dm) : List Int := (keysM m).mergeSort (fun a b => decide (a ≤ b))
def bx (m : Dm) : List (Int × Int) := (sortK m).map fun b => (b, (dget m b).getD 0)
theorem sortK_perm (m : Dm) : (sortK m).Perm (keysM m) := List.mergeSort_perm _ _
theorem sortK_up (m : Dm) : (sortK m).Pairwise (· ≤ ·) := by
  have h := List.pairwise_mergeSort (le := fun a b : Int => decide (a ≤ b)) (fun a b c h1 h2 => by simp at *; omega) (fun a b => by simp; omega) (keysM m)
  exact h.imp fun h => by simpa using h
theorem sortK_is {m : Dm} {ys : List Int} (hp : ys.Perm (keysM m)) (hs : ys.Pairwise (· ≤ ·)) : ys = sortK m := PySem.W.ksm_same (hp.trans (sortK_perm m).symm) hs (sortK_up m)
theorem bx_len (m : Dm) : (bx m).length = m.length := by
  unfold bx
  rw [List.length_map, (sortK_perm m).length_eq]
  exact List.length_map _
theorem encM_keys (m : Dm) : (encM m).map (·.1) = (keysM m).map Sum.inl := by
  unfold encM keysM
  rw [List.map_map, List.map_map]
  rfl
theorem dget_in {m : Dm} {b : Int} (h : b ∈ keysM m) : ∃ n, dget m b = some n := by
  cases e : dget m b with
  | some n => exact ⟨n, rfl⟩
  | none =>
    exfalso
    have h1 := dget_any b m
    rw [e] at h1
    obtain ⟨p, hp, q⟩ := List.mem_map.mp h
    have h2 : (m.any fun p => decide (p.1 = b)) = true := List.any_eq_true.mpr ⟨p, hp, decide_eq_true q⟩
    rw [h2] at h1
    cases h1
structure Chg (F F' : List Addr) (H H' : Hp) : Prop where
  keep : ∀ a o, H a = some o → a ∉ F → H' a = some o
  grow : ∀ a, a ∈ F' → a ∈ F ∨ H a = none
theorem Chg.refl (F : List Addr) (H : Hp) : Chg F F H H := ⟨fun _ _ h _ => h, fun _ h => .inl h⟩
theorem Chg.of_ex {F : List Addr} {H H' : Hp} (e : Ex H H') : Chg F F H H' := ⟨fun a o h _ => e a o h, fun _ h => .inl h⟩
theorem Chg.trans {F F1 F2 : List Addr} {H H1 H2 : Hp} (a : Chg F F1 H H1) (b : Chg F1 F2 H1 H2) : Chg F F2 H H2 := by
  refine ⟨fun x o h n => b.keep x o (a.keep x o h n) fun m => ?_, fun x m => ?_⟩
  · rcases a.grow x m with q | q
    · exact n q
    · rw [h] at q; cases q
  · rcases b.grow x m with q | q
    · exact a.grow x q
    · by_cases n : x ∈ F
      · exact .inl n
      · refine .inr ?_
        cases e : H x with
        | none => rfl
        | some o => rw [a.keep x o e n] at q; cases q
theorem Chg.ex {F F' : List Addr} {S H H' : Hp} (c : Chg F F' H H') (e : Ex S H) (h : ∀ a ∈ F, S a = none) : Ex S H' := fun a o q =>
  c.keep a o (e a o q) fun m => by rw [h a m] at q; cases q
theorem Chg.free {F F' : List Addr} {S H H' : Hp} (c : Chg F F' H H') (e : Ex S H) (h : ∀ a ∈ F, S a = none) : ∀ a ∈ F', S a = none := fun a m => by
  rcases c.grow a m with q | q
  · exact h a q
  · exact Evl.fresh_back e q
structure LA where
  p : Addr
  dx : Addr
  tl : Addr
  sd : Addr
  ds : List Addr
def LA.fp (a : LA) : List Addr := a.p :: a.tl :: a.sd :: a.ds
structure LogAt (d : Ad) (H : Hp) (a : LA) (ts : List Dm) (sn : Dm) : Prop where
  hp : H a.p = some (.ins d.cLog a.dx [("tiers", .ref a.tl), ("seen", .ref a.sd)])
  ht : H a.tl = some (.lst (a.ds.map V.ref))
  hs : H a.sd = some (.dK (encM sn))
  hl : a.ds.length = ts.length
  hd : ∀ (i : Nat) (x : Addr) (m : Dm), a.ds[i]? = some x → ts[i]? = some m → H x = some (.dK (encM m))
  nd : a.fp.Nodup
structure TLog (d : Ad) : Prop where
  cl : Cls d.K d.cLog
  n1 : NoAttr d.K d.cLog "tiers"
  n2 : NoAttr d.K d.cLog "seen"
theorem LogAt.keep {d : Ad} {H H' : Hp} {a : LA} {ts : List Dm} {sn : Dm} (L : LogAt d H a ts sn) (k : ∀ x ∈ a.fp, H' x = H x) : LogAt d H' a ts sn := by
  have k1 := k a.p (by simp [LA.fp])
  have k2 := k a.tl (by simp [LA.fp])
  have k3 := k a.sd (by simp [LA.fp])
  refine ⟨k1.trans L.hp, k2.trans L.ht, k3.trans L.hs, L.hl, fun i x m h1 h2 => (k x ?_).trans (L.hd i x m h1 h2), L.nd⟩
  have := List.mem_of_getElem? h1
  simp [LA.fp, this]
theorem LogAt.some {d : Ad} {H : Hp} {a : LA} {ts : List Dm} {sn : Dm} (L : LogAt d H a ts sn) : ∀ x ∈ a.fp, ∃ o, H x = some o := by
  intro x hx
  simp only [LA.fp, List.mem_cons] at hx
  rcases hx with rfl | rfl | rfl | hx
  · exact ⟨_, L.hp⟩
  · exact ⟨_, L.ht⟩
  · exact ⟨_, L.hs⟩
  · obtain ⟨i, hi⟩ := List.getElem?_of_mem hx
    have h1 : i < a.ds.length := (List.getElem?_eq_some_iff.mp hi).1
    rw [L.hl] at h1
    exact ⟨_, L.hd i x _ hi (List.getElem?_eq_getElem h1)⟩
theorem LogAt.other {d : Ad} {H H' : Hp} {a : LA} {ts : List Dm} {sn : Dm} {F F' : List Addr} (L : LogAt d H a ts sn) (c : Chg F F' H H') (n : ∀ x ∈ a.fp, x ∉ F) : LogAt d H' a ts sn :=
  L.keep fun x hx => by
    obtain ⟨o, h⟩ := L.some x hx
    rw [h, c.keep x o h (n x hx)]
theorem LogAt.ex {d : Ad} {H H' : Hp} {a : LA} {ts : List Dm} {sn : Dm} (L : LogAt d H a ts sn) (e : Ex H H') : LogAt d H' a ts sn :=
  L.keep fun x hx => by
    obtain ⟨o, h⟩ := L.some x hx
    rw [h, e x o h]
def Pairs (H0 H : Hp) (vs : List V) (ps : List (Int × Int)) : Prop := vs.length = ps.length ∧ ∀ (i : Nat) (v : V) (q : Int × Int), vs[i]? = some v → ps[i]? = some q → ∃ t, v = .ref t ∧ H0 t = none ∧ H t = some (.tup [.int q.1, .int q.2])
def sp_by_boxes (_ : Ad) : Sp := fun vs H Q _ => ∃ (p : Addr) (m : Dm), vs = [.ref p] ∧ H p = some (.dK (encM m)) ∧ m.length < 64 ∧
  ∀ q H' xs, H q = none → Ex H H' → H' q = some (.lst xs) → Pairs H H' xs (bx m) → Q (.ref q) H'
def sp_Log_init (d : Ad) : Sp := fun vs H Q _ => ∃ (p dx : Addr), vs = [.ref p] ∧ H p = some (.ins d.cLog dx []) ∧ ∀ a H', LogAt d H' a [[]] [] → a.p = p → Chg [p] a.fp H H' → Q .non H'
def sp_Log_write (d : Ad) : Sp := fun vs H Q _ => ∃ (a : LA) (b n : Int) (ts : List Dm) (m sn : Dm), vs = [.ref a.p, .int b, .int n] ∧ LogAt d H a (ts ++ [m]) sn ∧ m.length < 1000 ∧ ∀ H', LogAt d H' a (ts ++ [dput m b n]) sn → Chg a.fp a.fp H H' → Q .non H'
def ownM (ts : List Dm) (b : Int) : Option Int := ts.reverse.findSome? fun m => dget m b
def optV : Option Int → V
  | some n => .int n
  | none => .non
def sp_Log_own (d : Ad) : Sp := fun vs H Q _ => ∃ (a : LA) (b : Int) (ts : List Dm) (sn : Dm), vs = [.ref a.p, .int b] ∧ LogAt d H a ts sn ∧ Q (optV (ownM ts b)) H
def sp_Log_begin (d : Ad) : Sp := fun vs H Q _ => ∃ (a : LA) (ts : List Dm) (sn : Dm), vs = [.ref a.p] ∧ LogAt d H a ts sn ∧ ts.length < 1000 ∧ ∀ a' H', LogAt d H' a' (ts ++ [[]]) sn → a'.p = a.p → Chg a.fp a'.fp H H' → Q .non H'
def putAll (m top : Dm) : Dm := top.foldl (fun acc p => dput acc p.1 p.2) m
def sp_Log_settle (d : Ad) : Sp := fun vs H Q _ => ∃ (a : LA) (ts : List Dm) (m top sn : Dm), vs = [.ref a.p] ∧ LogAt d H a (ts ++ [m] ++ [top]) sn ∧ m.length + top.length < 1000 ∧ ∀ a' H', LogAt d H' a' (ts ++ [putAll m top]) sn → a'.p = a.p → Chg a.fp a'.fp H H' → Q .non H'
def sp_Log_drop (d : Ad) : Sp := fun vs H Q _ => ∃ (a : LA) (ts : List Dm) (m sn : Dm), vs = [.ref a.p] ∧ LogAt d H a (ts ++ [m]) sn ∧ ∀ a' H', LogAt d H' a' ts sn → a'.p = a.p → Chg a.fp a'.fp H H' → Q .non H'
def sp_Log_layers (d : Ad) : Sp := fun vs H Q _ => ∃ (a : LA) (ts : List Dm) (sn : Dm), vs = [.ref a.p] ∧ LogAt d H a ts sn ∧ Q (.int ts.length) H
def sp_Log_see (d : Ad) : Sp := fun vs H Q _ => ∃ (a : LA) (b n : Int) (ts : List Dm) (sn : Dm), vs = [.ref a.p, .int b, .int n] ∧ LogAt d H a ts sn ∧ sn.length < 1000 ∧ ∀ H', LogAt d H' a ts (dput sn b n) → Chg a.fp a.fp H H' → Q .non H'
def sp_Log_saw (d : Ad) : Sp := fun vs H Q _ => ∃ (a : LA) (ts : List Dm) (sn : Dm), vs = [.ref a.p] ∧ LogAt d H a ts sn ∧ sn.length < 64 ∧
  ∀ q H' xs, H q = none → Ex H H' → H' q = some (.lst xs) → Pairs H H' xs (bx sn) → Q (.ref q) H'
def sp_Log_wrote (d : Ad) : Sp := fun vs H Q _ => ∃ (a : LA) (m : Dm) (ts : List Dm) (sn : Dm), vs = [.ref a.p] ∧ LogAt d H a (m :: ts) sn ∧ m.length < 64 ∧
  ∀ q H' xs, H q = none → Ex H H' → H' q = some (.lst xs) → Pairs H H' xs (bx m) → Q (.ref q) H'
abbrev N_by_boxes : List Str := ["found", "box"]
def t_by_boxes (d : Ad) : TS :=
  (tRet (tLc (iList d.K (tCB rSortedD (tCons (tVar 0) tNil))) (gName 1) tYes (tTup (tCons (tVar 1) (tCons (tDGet (tVar 0) (tVar 1)) tNil))) [1]))
abbrev N_Log_init : List Str := ["self"]
def t_Log_init (d : Ad) : TS :=
  (tSeq (sFld d.K (tVar 0) (tLst (tCons tDNewK tNil)) "tiers")
  (sFld d.K (tVar 0) tDNewK "seen"))
abbrev N_Log_write : List Str := ["self", "box", "number"]
def t_Log_write (d : Ad) : TS :=
  (sDPut (tOp (rIxL d.K) (tFld d.K (tVar 0) "tiers") (aNeg (tC (.int 1)))) (tVar 1) (tVar 2))
abbrev N_Log_own : List Str := ["self", "box", "tier"]
def t_Log_own (d : Ad) : TS :=
  (tSeq (tFor (iRev d.K (tCons (tFld d.K (tVar 0) "tiers") tNil)) (gName 2) (tIfS (tB (tDIn (tVar 1) (tVar 2))) (tRet (tDGet (tVar 2) (tVar 1))) tNext))
  (tRet (tC .non)))
abbrev N_Log_begin : List Str := ["self"]
def t_Log_begin (d : Ad) : TS :=
  (tDrop (tBM d.K "list" rAppend (tFld d.K (tVar 0) "tiers") (tCons tDNewK tNil)))
abbrev N_Log_settle : List Str := ["self", "top", "box", "number"]
def t_Log_settle (d : Ad) : TS :=
  (tSeq (tAsg (tBM0 d.K "list" rPop (tFld d.K (tVar 0) "tiers")) (gName 1))
  (tLock (tFor (iItems (tVar 1)) (gTup d.K 2 (gCons (gName 2) (gCons (gName 3) gNil))) (sDPut (tOp (rIxL d.K) (tFld d.K (tVar 0) "tiers") (aNeg (tC (.int 1)))) (tVar 2) (tVar 3)))))
abbrev N_Log_drop : List Str := ["self"]
def t_Log_drop (d : Ad) : TS :=
  (tDrop (tBM0 d.K "list" rPop (tFld d.K (tVar 0) "tiers")))
abbrev N_Log_layers : List Str := ["self"]
def t_Log_layers (d : Ad) : TS :=
  (tRet (tCB (Evl.rLenS d.K) (tCons (tFld d.K (tVar 0) "tiers") tNil)))
abbrev N_Log_saw : List Str := ["self"]
def t_Log_saw (d : Ad) : TS :=
  (tRet (tCall (sp_by_boxes d) [] E0 (tCons (tFld d.K (tVar 0) "seen") tNil)))
abbrev N_Log_wrote : List Str := ["self"]
def t_Log_wrote (d : Ad) : TS :=
  (tRet (tCall (sp_by_boxes d) [] E0 (tCons (tOp (rIxL d.K) (tFld d.K (tVar 0) "tiers") (tC (.int 0))) tNil)))
abbrev N_Log_see : List Str := ["self", "box", "number"]
def t_Log_see (d : Ad) : TS :=
  (sDPut (tFld d.K (tVar 0) "seen") (tVar 1) (tVar 2))
local macro_rules | `(tactic| walk_at "callx") => `(tactic| fail)
section
variable {d : Ad} {vs : List V} {H : Hp} {Q : VK} {E : XK}
theorem pure_by_boxes (h : sp_by_boxes d vs H Q E) : t_by_boxes d { nx := fun _ H' => Q .non H', rt := Q } (start N_by_boxes vs) H := by
  obtain ⟨p, m, rfl, hm, hl, k⟩ := h
  show t_by_boxes d _ [some (.ref p), none] H
  unfold t_by_boxes
  walk_at "go"
  refine w_sortD hm (encM_keys m) (by unfold keysM; rw [List.length_map]; exact hl) fun ys l hp hs hfree => ?_
  have ey := sortK_is hp hs
  subst ey
  generalize hU : upd H l _ = H1
  have e1 := new_ex hfree hU
  have f1 := new_at hU
  clear hU
  walk_at "go"
  refine ⟨⟨_, SqL.of f1⟩, ?_⟩
  have kl : (sortK m).length = m.length := by rw [(sortK_perm m).length_eq]; exact List.length_map _
  refine lc_rel (walk_list (xs := (sortK m).map V.int)) (by rw [List.length_map]; omega) (fun i v S => ∃ t q, v = .ref t ∧ (bx m)[i]? = some q ∧ H t = none ∧ S t = some (.tup [.int q.1, .int q.2])) ?_ (fun H' e => SqL.of (e _ _ f1)) (fun i H x H' _ y => y.1 ▸ Evl.Ex.refl _) ?_ ?_ (mono_gn 1)
  · rintro i v S S' e ⟨t, q, h1, h2, h3, h4⟩
    exact ⟨t, q, h1, h2, h3, e _ _ h4⟩
  · rintro D i x H2 H3 hD hi e2 hDs ⟨rfl, hx⟩ R hR
    obtain ⟨b, rfl, hb⟩ := int_item hx
    obtain ⟨n, hn⟩ := dget_in (m := m) (b := b) ((sortK_perm m).mem_iff.mp (List.mem_of_getElem? hb))
    have hp2 : H3 p = some (.dK (encM m)) := (e1.trans (e2.trans del_ex)) _ _ hm
    refine ⟨rfl, ?_⟩
    walk_at "go"
    refine w_dgetI hp2 (by rw [valV_enc, hn]; rfl) ?_
    walk_at "go"
    intro t ht
    refine hR (.ref t) _ (Evl.Ex.new ht) ⟨t, (b, n), rfl, ?_, ex_free (e1.trans (e2.trans del_ex)) ht, ?_⟩
    · unfold bx
      rw [List.getElem?_map, hb]
      show some (b, (dget m b).getD 0) = _
      rw [hn]; rfl
    · obtain ⟨o, hDs⟩ := hDs
      rw [del_ne (Ne.symm (ne_of_none hDs ht)), upd_same]
  · rintro D H2 xs hD e2 h1 h2 h3
    refine k D H2 xs (ex_free e1 hD) (e1.trans e2) h1 ⟨by rw [h2, bx_len, List.length_map, kl], fun i v q hv hq => ?_⟩
    obtain ⟨t, q', g1, g2, g3, g4⟩ := h3 i v hv
    rw [hq] at g2; cases g2
    exact ⟨t, g1, g3, del_ex _ _ g4⟩
theorem pure_Log_init (T : TLog d) (h : sp_Log_init d vs H Q E) : t_Log_init d { nx := fun _ H' => Q .non H', rt := Q } (start N_Log_init vs) H := by
  obtain ⟨p, dx, rfl, hp, k⟩ := h
  obtain ⟨cl, n1, n2⟩ := T
  show t_Log_init d _ [some (.ref p)] H
  unfold t_Log_init
  walk_at "goN"
  rename_i td htd H1 e1 f1 tl htl H2 e2 f2 sd hsd H3 e3 f3
  refine k ⟨p, dx, tl, sd, [td]⟩ _ ⟨by walk_at "hk", by walk_at "hk", by walk_at "hk", rfl, ?_, ?_⟩ rfl ⟨fun x o hx hn => by walk_at "hk", ?_⟩
  · rintro (_ | i) x m h1 h2
    · cases h1; cases h2
      walk_at "hk"
    · simp at h1
  · have q1 : p ≠ tl := by walk_at "ne"
    have q2 : p ≠ sd := by walk_at "ne"
    have q3 : p ≠ td := by walk_at "ne"
    have q4 : tl ≠ sd := by walk_at "ne"
    have q5 : tl ≠ td := by walk_at "ne"
    have q6 : sd ≠ td := by walk_at "ne"
    simp [LA.fp, q1, q2, q3, q4, q5, q6]
  · intro x hx
    simp only [LA.fp, List.mem_cons, List.not_mem_nil, or_false] at hx ⊢
    rcases hx with h | h | h | h
    · exact .inl h
    · subst h; exact .inr (ex_free e1 htl)
    · subst h
      refine .inr (ex_free (e1.trans e2) ?_)
      rw [upd_ne (by walk_at "ne")] at hsd
      exact hsd
    · subst h; exact .inr htd
theorem snoc_of {ds : List Addr} {ts : List Dm} {m : Dm} (hl : ds.length = (ts ++ [m]).length) : ∃ ds0 x, ds = ds0 ++ [x] ∧ ds0.length = ts.length := by
  have h : ds ≠ [] := by intro e; rw [e] at hl; simp at hl
  refine ⟨ds.dropLast, ds.getLast h, (List.dropLast_concat_getLast h).symm, ?_⟩
  rw [List.length_dropLast, hl]; simp
theorem last_at {ds : List Addr} {ts : List Dm} {m : Dm} {x : Addr} {P : Addr → Dm → Prop} (hl : ds.length = ts.length) (h : ∀ (i : Nat) (y : Addr) (n : Dm), (ds ++ [x])[i]? = some y → (ts ++ [m])[i]? = some n → P y n) : P x m :=
  h ds.length x m (by simp) (by rw [hl]; simp)
theorem init_at {ds : List Addr} {ts : List Dm} {m : Dm} {x : Addr} {P : Addr → Dm → Prop} (hl : ds.length = ts.length) (h : ∀ (i : Nat) (y : Addr) (n : Dm), (ds ++ [x])[i]? = some y → (ts ++ [m])[i]? = some n → P y n) :
    ∀ (i : Nat) (y : Addr) (n : Dm), ds[i]? = some y → ts[i]? = some n → P y n := fun i y n h1 h2 => by
  have b1 := (List.getElem?_eq_some_iff.mp h1).1
  exact h i y n (by rw [List.getElem?_append_left b1]; exact h1) (by rw [List.getElem?_append_left (hl ▸ b1)]; exact h2)
theorem snoc_at {ds : List Addr} {ts : List Dm} {m : Dm} {x : Addr} {P : Addr → Dm → Prop} (hl : ds.length = ts.length) (h : ∀ (i : Nat) (y : Addr) (n : Dm), ds[i]? = some y → ts[i]? = some n → P y n) (hx : P x m) :
    ∀ (i : Nat) (y : Addr) (n : Dm), (ds ++ [x])[i]? = some y → (ts ++ [m])[i]? = some n → P y n := fun i y n h1 h2 => by
  by_cases b : i < ds.length
  · rw [List.getElem?_append_left b] at h1
    rw [List.getElem?_append_left (hl ▸ b)] at h2
    exact h i y n h1 h2
  · have b1 := (List.getElem?_eq_some_iff.mp h1).1
    have e : i = ds.length := by simp at b1; omega
    subst e
    have h1' : x = y := by simpa using h1
    rw [hl] at h2
    have h2' : m = n := by simpa using h2
    rw [← h1', ← h2']; exact hx
theorem pure_Log_write (T : TLog d) (h : sp_Log_write d vs H Q E) : t_Log_write d { nx := fun _ H' => Q .non H', rt := Q } (start N_Log_write vs) H := by
  obtain ⟨⟨p, dx, tl, sd, ds⟩, b, n, ts, m, sn, rfl, ⟨hp, ht, hs, hl, hd, nd⟩, hm, k⟩ := h
  obtain ⟨cl, n1, n2⟩ := T
  obtain ⟨ds, x, rfl, hl2⟩ := snoc_of hl
  dsimp only at hp ht hs hd
  have hx : H x = some (.dK (encM m)) := last_at hl2 hd
  have hd' := init_at hl2 hd
  show t_Log_write d _ [some (.ref p), some (.int b), some (.int n)] H
  unfold t_Log_write
  walk_at "goN"
  refine w_ixL (SqL.of ht) (by rw [List.map_append]; exact atI_last _ _) ?_
  walk_at "goN"
  refine w_dputI hx (by rw [encM_len]; exact small1000 (by omega)) ?_
  rw [putK_enc]
  have nd0 := nd
  simp only [LA.fp, List.nodup_cons, List.mem_cons, List.mem_append, List.mem_singleton, not_or, List.nodup_append] at nd
  obtain ⟨⟨q1, q2, q3, q4⟩, ⟨q5, q6, q7⟩, ⟨q8, q9⟩, nd1, _, nd2⟩ := nd
  have q4 : p ≠ x := by simpa using q4
  have q7 : tl ≠ x := by simpa using q7
  have q9 : sd ≠ x := by simpa using q9
  refine k _ ⟨by walk_at "hk", by walk_at "hk", by walk_at "hk", by simp [hl2], ?_, ?_⟩ ⟨fun a o ha hn => ?_, fun _ h => .inl h⟩
  · refine snoc_at hl2 (fun i y m' h1 h2 => ?_) upd_same
    have hy := List.mem_of_getElem? h1
    have : y ≠ x := by
      have := nd2 y hy x
      simpa using this
    rw [upd_ne this]
    exact hd' i y m' h1 h2
  · exact nd0
  · have : a ≠ x := fun e => hn (by simp [LA.fp, e])
    walk_at "hk"
theorem ownM_hit {ts : List Dm} {b n : Int} {i : Nat} {m : Dm} (h : (ts.reverse.take i).findSome? (fun m => dget m b) = none) (hi : ts.reverse[i]? = some m) (hb : dget m b = some n) : ownM ts b = some n := by
  unfold ownM
  have h1 := (List.getElem?_eq_some_iff.mp hi).1
  have h2 := (List.getElem?_eq_some_iff.mp hi).2
  rw [← List.take_append_drop i ts.reverse, List.findSome?_append, h, List.drop_eq_getElem_cons h1, h2]
  simp [hb]
theorem ownM_step {ts : List Dm} {b : Int} {i : Nat} {m : Dm} (h : (ts.reverse.take i).findSome? (fun m => dget m b) = none) (hi : ts.reverse[i]? = some m) (hb : dget m b = none) : (ts.reverse.take (i + 1)).findSome? (fun m => dget m b) = none := by
  rw [List.take_succ, hi, List.findSome?_append, h]
  simp [hb]
theorem pure_Log_own (T : TLog d) (h : sp_Log_own d vs H Q E) : t_Log_own d { nx := fun _ H' => Q .non H', rt := Q } (start N_Log_own vs) H := by
  obtain ⟨⟨p, dx, tl, sd, ds⟩, b, ts, sn, rfl, ⟨hp, ht, hs, hl, hd, nd⟩, k⟩ := h
  obtain ⟨cl, n1, n2⟩ := T
  dsimp only at hp ht hs hd hl
  show t_Log_own d _ [some (.ref p), some (.int b), none] H
  unfold t_Log_own
  walk_at "goN"
  refine for_it (walk_rev (K := d.K) (a := tl) (xs := ds.map V.ref)) (fun i σ H' => (∃ x, σ = [some (.ref p), some (.int b), x]) ∧ H' = H ∧ (ts.reverse.take i).findSome? (fun m => dget m b) = none) ⟨⟨_, rfl⟩, rfl, rfl⟩ (fun i σ H' _ q => by rw [q.2.1]; exact SqL.of ht) ?_ ?_
  · rintro i x σ H1 H2 hi ⟨⟨x2, rfl⟩, rfl, ha⟩ ⟨rfl, hx⟩
    rw [List.length_map] at hi hx
    rw [List.getElem?_map] at hx
    obtain ⟨y, hy, rfl⟩ := Option.map_eq_some_iff.mp hx
    have hj : ds.length - 1 - i < ts.length := by omega
    have hm := hd _ y _ hy (List.getElem?_eq_getElem hj)
    have hr : ts.reverse[i]? = some ts[ds.length - 1 - i] := by
      rw [List.getElem?_reverse (by omega), ← hl]
      exact List.getElem?_eq_getElem hj
    walk_at "goN"
    rw [valV_enc]
    cases e : dget ts[ds.length - 1 - i] b with
    | some n =>
      show if true = true then _ else _
      walk_at "go"
      refine w_dgetI hm (by rw [valV_enc, e]; rfl) ?_
      rw [ownM_hit ha hr e] at k
      exact k
    | none =>
      show if false = true then _ else _
      walk_at "go"
      exact ⟨⟨_, rfl⟩, rfl, ownM_step ha hr e⟩
  · rintro σ H1 ⟨⟨x2, rfl⟩, rfl, ha⟩
    walk_at "go"
    rw [List.length_map, hl, List.take_of_length_le (by simp)] at ha
    have e : ownM ts b = none := ha
    rw [e] at k
    exact k
theorem pure_Log_begin (T : TLog d) (h : sp_Log_begin d vs H Q E) : t_Log_begin d { nx := fun _ H' => Q .non H', rt := Q } (start N_Log_begin vs) H := by
  obtain ⟨⟨p, dx, tl, sd, ds⟩, ts, sn, rfl, L, hlen, k⟩ := h
  have Ls := L.some
  obtain ⟨hp, ht, hs, hl, hd, nd⟩ := L
  obtain ⟨cl, n1, n2⟩ := T
  dsimp only at hp ht hs hd hl
  show t_Log_begin d _ [some (.ref p)] H
  unfold t_Log_begin
  walk_at "goN"
  rename_i x hx H1 e1 f1
  refine w_app (by walk_at "hk") (by rw [List.length_map]; exact small1000 (by omega)) ?_
  have nx : ∀ y ∈ p :: tl :: sd :: ds, y ≠ x := fun y hy e => by
    obtain ⟨o, h⟩ := Ls y hy
    rw [e, hx] at h; cases h
  have ntl : ∀ y ∈ ds, y ≠ tl := fun y hy e => by
    simp only [LA.fp, List.nodup_cons, List.mem_cons, not_or] at nd
    exact nd.2.1.2 (e ▸ hy)
  have q1 : p ≠ tl := by simp only [LA.fp, List.nodup_cons, List.mem_cons, not_or] at nd; exact nd.1.1
  have q2 : sd ≠ tl := by simp only [LA.fp, List.nodup_cons, List.mem_cons, not_or] at nd; exact Ne.symm nd.2.1.1
  have q3 : x ≠ tl := Ne.symm (nx tl (by simp))
  refine k ⟨p, dx, tl, sd, ds ++ [x]⟩ _ ⟨by walk_at "hk", by show upd _ _ _ _ = _; rw [upd_same, List.map_append]; rfl, by walk_at "hk", by simp [hl], ?_, ?_⟩ rfl ⟨fun a o ha hn => ?_, ?_⟩
  · refine snoc_at hl (fun i y m' h1 h2 => ?_) (by walk_at "hk")
    have := ntl y (List.mem_of_getElem? h1)
    have := hd i y m' h1 h2
    walk_at "hk"
  · have e : (LA.mk p dx tl sd (ds ++ [x])).fp = (LA.mk p dx tl sd ds).fp ++ [x] := rfl
    rw [e]
    exact nd_snoc nd fun m => nx x m rfl
  · have : a ≠ tl := fun e => hn (by simp [LA.fp, e])
    walk_at "hk"
  · intro a ha
    have e : (LA.mk p dx tl sd (ds ++ [x])).fp = (LA.mk p dx tl sd ds).fp ++ [x] := rfl
    rw [e, List.mem_append] at ha
    rcases ha with h | h
    · exact .inl h
    · simp at h; subst h; exact .inr hx
theorem pure_Log_drop (T : TLog d) (h : sp_Log_drop d vs H Q E) : t_Log_drop d { nx := fun _ H' => Q .non H', rt := Q } (start N_Log_drop vs) H := by
  obtain ⟨⟨p, dx, tl, sd, ds⟩, ts, m, sn, rfl, ⟨hp, ht, hs, hl, hd, nd⟩, k⟩ := h
  obtain ⟨cl, n1, n2⟩ := T
  obtain ⟨ds, x, rfl, hl2⟩ := snoc_of hl
  dsimp only at hp ht hs hd
  have hd' := init_at hl2 hd
  show t_Log_drop d _ [some (.ref p)] H
  unfold t_Log_drop
  walk_at "goN"
  refine w_pop (by rw [ht, List.map_append]; rfl) ?_
  have e : (LA.mk p dx tl sd (ds ++ [x])).fp = (LA.mk p dx tl sd ds).fp ++ [x] := rfl
  have nd1 : (LA.mk p dx tl sd ds).fp.Nodup := by rw [e] at nd; exact (List.nodup_append.mp nd).1
  have nd2 := nd1
  simp only [LA.fp, List.nodup_cons, List.mem_cons, not_or] at nd2
  obtain ⟨⟨q1, q2, q3⟩, ⟨q5, q6⟩, _⟩ := nd2
  refine k ⟨p, dx, tl, sd, ds⟩ _ ⟨by walk_at "hk", upd_same, by walk_at "hk", hl2, fun i y m' h1 h2 => ?_, nd1⟩ rfl ⟨fun a o ha hn => ?_, fun a ha => .inl (by rw [e]; exact List.mem_append_left _ ha)⟩
  · have : y ≠ tl := fun e => q6 (e ▸ List.mem_of_getElem? h1)
    have := hd' i y m' h1 h2
    walk_at "hk"
  · have : a ≠ tl := fun e => hn (by simp [LA.fp, e])
    walk_at "hk"
theorem pure_Log_layers (T : TLog d) (h : sp_Log_layers d vs H Q E) : t_Log_layers d { nx := fun _ H' => Q .non H', rt := Q } (start N_Log_layers vs) H := by
  obtain ⟨⟨p, dx, tl, sd, ds⟩, ts, sn, rfl, ⟨hp, ht, hs, hl, hd, nd⟩, k⟩ := h
  obtain ⟨cl, n1, n2⟩ := T
  dsimp only at hp ht hs hd hl
  show t_Log_layers d _ [some (.ref p)] H
  unfold t_Log_layers
  walk_at "goN"
  rw [List.length_map, hl]
  exact k
theorem pure_Log_see (T : TLog d) (h : sp_Log_see d vs H Q E) : t_Log_see d { nx := fun _ H' => Q .non H', rt := Q } (start N_Log_see vs) H := by
  obtain ⟨⟨p, dx, tl, sd, ds⟩, b, n, ts, sn, rfl, ⟨hp, ht, hs, hl, hd, nd⟩, hm, k⟩ := h
  obtain ⟨cl, n1, n2⟩ := T
  dsimp only at hp ht hs hd hl
  show t_Log_see d _ [some (.ref p), some (.int b), some (.int n)] H
  unfold t_Log_see
  walk_at "goN"
  refine w_dputI hs (by rw [encM_len]; exact small1000 (by omega)) ?_
  rw [putK_enc]
  have nd0 := nd
  simp only [LA.fp, List.nodup_cons, List.mem_cons, not_or] at nd0
  obtain ⟨⟨q1, q2, q3⟩, ⟨q5, q6⟩, q7, _⟩ := nd0
  refine k _ ⟨by walk_at "hk", by walk_at "hk", upd_same, hl, fun i y m' h1 h2 => ?_, nd⟩ ⟨fun a o ha hn => ?_, fun _ h => .inl h⟩
  · have : y ≠ sd := fun e => q7 (e ▸ List.mem_of_getElem? h1)
    have := hd i y m' h1 h2
    walk_at "hk"
  · have : a ≠ sd := fun e => hn (by simp [LA.fp, e])
    walk_at "hk"
theorem pure_Log_saw (T : TLog d) (h : sp_Log_saw d vs H Q E) : t_Log_saw d { nx := fun _ H' => Q .non H', rt := Q } (start N_Log_saw vs) H := by
  obtain ⟨⟨p, dx, tl, sd, ds⟩, ts, sn, rfl, ⟨hp, ht, hs, hl, hd, nd⟩, hm, k⟩ := h
  obtain ⟨cl, n1, n2⟩ := T
  dsimp only at hp ht hs hd hl
  show t_Log_saw d _ [some (.ref p)] H
  unfold t_Log_saw
  walk_at "goN"
  exact ⟨sd, sn, rfl, hs, hm, k⟩
theorem pure_Log_wrote (T : TLog d) (h : sp_Log_wrote d vs H Q E) : t_Log_wrote d { nx := fun _ H' => Q .non H', rt := Q } (start N_Log_wrote vs) H := by
  obtain ⟨⟨p, dx, tl, sd, ds⟩, m, ts, sn, rfl, ⟨hp, ht, hs, hl, hd, nd⟩, hm, k⟩ := h
  obtain ⟨cl, n1, n2⟩ := T
  dsimp only at hp ht hs hd hl
  obtain ⟨x, ds, rfl⟩ : ∃ x ds', ds = x :: ds' := by
    cases ds with
    | nil => simp at hl
    | cons x ds' => exact ⟨x, ds', rfl⟩
  show t_Log_wrote d _ [some (.ref p)] H
  unfold t_Log_wrote
  walk_at "goN"
  refine w_ixL (SqL.of ht) (at_of (j := 0) rfl rfl) ?_
  walk_at "goN"
  exact ⟨x, m, rfl, hd 0 x m rfl rfl, hm, k⟩
theorem putAll_take {m top : Dm} {i : Nat} {q : Int × Int} (h : top[i]? = some q) : putAll m (top.take (i + 1)) = dput (putAll m (top.take i)) q.1 q.2 := by
  unfold putAll
  rw [List.take_succ, h, List.foldl_append]
  rfl
theorem putAll_len : ∀ (top m : Dm), (putAll m top).length ≤ m.length + top.length
  | [], m => Nat.le_refl _
  | a :: r, m => by
    have h := putAll_len r (dput m a.1 a.2)
    have h2 := dput_len m a.1 a.2
    show (putAll (dput m a.1 a.2) r).length ≤ _
    simp only [List.length_cons]
    omega
theorem pure_Log_settle (T : TLog d) (h : sp_Log_settle d vs H Q E) : t_Log_settle d { nx := fun _ H' => Q .non H', rt := Q } (start N_Log_settle vs) H := by
  obtain ⟨⟨p, dx, tl, sd, ds⟩, ts, m, top, sn, rfl, L, hlen, k⟩ := h
  have Ls := L.some
  obtain ⟨hp, ht, hs, hl, hd, nd⟩ := L
  obtain ⟨cl, n1, n2⟩ := T
  obtain ⟨ds, y, rfl, hl2⟩ := snoc_of hl
  obtain ⟨ds, x, rfl, hl3⟩ := snoc_of hl2
  dsimp only at hp ht hs hd
  have hy : H y = some (.dK (encM top)) := last_at hl2 hd
  have hd1 := init_at hl2 hd
  have hx : H x = some (.dK (encM m)) := last_at hl3 hd1
  have hd2 := init_at hl3 hd1
  have e : (LA.mk p dx tl sd (ds ++ [x] ++ [y])).fp = (LA.mk p dx tl sd (ds ++ [x])).fp ++ [y] := rfl
  have nd1 : (LA.mk p dx tl sd (ds ++ [x])).fp.Nodup := by rw [e] at nd; exact (List.nodup_append.mp nd).1
  have ny : ∀ z ∈ (LA.mk p dx tl sd (ds ++ [x])).fp, z ≠ y := fun z hz => by
    rw [e] at nd
    exact (List.nodup_append.mp nd).2.2 z hz y (by simp)
  have e2 : (LA.mk p dx tl sd (ds ++ [x])).fp = (LA.mk p dx tl sd ds).fp ++ [x] := rfl
  have nx : ∀ z ∈ (LA.mk p dx tl sd ds).fp, z ≠ x := fun z hz => by
    rw [e2] at nd1
    exact (List.nodup_append.mp nd1).2.2 z hz x (by simp)
  have qpy : p ≠ y := ny p (by simp [LA.fp])
  have qty : tl ≠ y := ny tl (by simp [LA.fp])
  have qsy : sd ≠ y := ny sd (by simp [LA.fp])
  have qxy : x ≠ y := ny x (by simp [LA.fp])
  have qpx : p ≠ x := nx p (by simp [LA.fp])
  have qtx : tl ≠ x := nx tl (by simp [LA.fp])
  have qsx : sd ≠ x := nx sd (by simp [LA.fp])
  have nd3 := nd1
  simp only [LA.fp, List.nodup_cons, List.mem_cons, not_or] at nd3
  obtain ⟨⟨qpt, qps, qpd⟩, ⟨qts, qtd⟩, qsd, _⟩ := nd3
  show t_Log_settle d _ [some (.ref p), none, none, none] H
  unfold t_Log_settle
  walk_at "goN"
  refine w_pop (by rw [ht, List.map_append]; rfl) ?_
  walk_at "goN"
  refine w_lock ⟨y, .dK (encM top), by walk_at "hk", trivial, fun od => ?_⟩
  generalize hK0 : upd (upd H tl (.lst ((ds ++ [x]).map V.ref))) y (.frz od (.dK (encM top))) = K0
  have k0y : K0 y = some (.frz od (.dK (encM top))) := by rw [← hK0]; walk_at "hk"
  have k0p : K0 p = some (.ins d.cLog dx [("tiers", .ref tl), ("seen", .ref sd)]) := by rw [← hK0]; walk_at "hk"
  have k0t : K0 tl = some (.lst ((ds ++ [x]).map V.ref)) := by rw [← hK0]; walk_at "hk"
  have k0x : K0 x = some (.dK (encM m)) := by rw [← hK0]; walk_at "hk"
  walk_at "goN"
  refine w_items1 k0y ?_
  refine for_it (walk_items (d := y) (o := od) (kvs := encM top)) (fun i σ H' => (∃ a b, σ = [some (.ref p), some (.ref y), a, b]) ∧ H' x = some (.dK (encM (putAll m (top.take i)))) ∧ ∀ a o, K0 a = some o → a ≠ x → H' a = some o) ⟨⟨_, _, rfl⟩, k0x, fun a o h _ => h⟩ (fun i σ H' _ q => q.2.2 _ _ k0y (Ne.symm qxy)) ?_ ?_
  · rintro i v σ H1 H2 hi ⟨⟨a, b, rfl⟩, hx1, hk1⟩ ⟨t, u, w, rfl, ht1, rfl, hu, hw⟩
    rw [encM_len] at hi
    obtain ⟨q, hq⟩ : ∃ q, top[i]? = some q := ⟨_, List.getElem?_eq_getElem hi⟩
    have hq1 : (encM top)[i]? = some (.inl q.1, .int q.2) := by unfold encM; rw [List.getElem?_map, hq]; rfl
    have hu' : ((encM top)[i]?).map (fun kv => kV kv.1) = some u := hu
    have hw' : ((encM top)[i]?).map Prod.snd = some w := hw
    rw [hq1] at hu' hw'
    cases hu'; cases hw'
    have g1 := hk1 p _ k0p qpx
    have g2 := hk1 tl _ k0t qtx
    show gTup d.K 2 (gCons (gName 2) (gCons (gName 3) gNil)) (.ref t) [some (.ref p), some (.ref y), a, b] (upd H1 t (.tup [.int q.1, .int q.2])) _
    walk_at "goN"
    refine w_ixL (SqL.of (by walk_at "hk")) (by rw [List.map_append]; exact atI_last _ _) ?_
    walk_at "goN"
    have hb : (encM (putAll m (top.take i))).length < sizeLine := by
      rw [encM_len]
      have h1 := putAll_len (top.take i) m
      have h2 : (top.take i).length ≤ top.length := by rw [List.length_take]; exact Nat.min_le_right _ _
      exact small1000 (by omega)
    refine w_dputI (by walk_at "hk") hb ?_
    rw [putK_enc]
    refine ⟨⟨_, _, rfl⟩, by rw [upd_same, putAll_take hq], fun c o h n => ?_⟩
    have := hk1 c o h n
    walk_at "hk"
  · rintro σ H1 ⟨⟨a, b, rfl⟩, hx1, hk1⟩
    rw [encM_len, List.take_of_length_le (Nat.le_refl _)] at hx1
    refine ⟨hk1 y _ k0y (Ne.symm qxy), ?_⟩
    have back : ∀ c o, H c = some o → c ≠ tl → c ≠ y → c ≠ x → (upd H1 y (.dK (encM top))) c = some o := fun c o h n1 n2 n3 => by
      have : K0 c = some o := by rw [← hK0]; walk_at "hk"
      have := hk1 c o this n3
      walk_at "hk"
    refine k ⟨p, dx, tl, sd, ds ++ [x]⟩ _ ⟨back _ _ hp qpt qpy qpx, ?_, back _ _ hs (Ne.symm qts) qsy qsx, by simp [hl3], ?_, nd1⟩ rfl ⟨fun c o h n => ?_, ?_⟩
    · have := hk1 tl _ k0t qtx
      walk_at "hk"
    · refine snoc_at hl3 (fun i z m' h1 h2 => ?_) (by walk_at "hk")
      have hz := List.mem_of_getElem? h1
      refine back _ _ (hd2 i z m' h1 h2) (fun e => qtd (e ▸ List.mem_append_left _ hz)) (ny z ?_) (nx z ?_)
      · simp [LA.fp, hz]
      · simp [LA.fp, hz]
    · rw [e, e2] at n
      simp only [LA.fp, List.mem_append, List.mem_cons, List.not_mem_nil, or_false, not_or] at n
      exact back c o h n.1.1.2.1 n.2 n.1.2
    · intro c hc
      exact .inl (by rw [e]; exact List.mem_append_left _ hc)
end
end RT

set_option Elab.async false
set_option linter.all false
set_option maxRecDepth 100000
set_option maxHeartbeats 4000000
set_option autoImplicit false
namespace RT
open PySem L2
structure KeysOk (m : Dm) : Prop where
  nd : (keysM m).Nodup
  le : ∀ k ∈ keysM m, 0 ≤ k ∧ k < 16
theorem KeysOk.nil : KeysOk [] := ⟨List.nodup_nil, fun _ h => by simp [keysM] at h⟩
theorem keys_put (m : Dm) (b n : Int) : keysM (dput m b n) = if (m.any fun p => decide (p.1 = b)) = true then keysM m else keysM m ++ [b] := by
  unfold dput
  by_cases h : (m.any fun p => decide (p.1 = b)) = true
  · rw [if_pos h, if_pos h]
    unfold keysM
    rw [List.map_map]
    refine List.map_congr_left fun p _ => ?_
    show (if p.1 = b then (p.1, n) else p).1 = p.1
    split <;> rfl
  · rw [if_neg h, if_neg h]
    unfold keysM
    rw [List.map_append]
    rfl
theorem KeysOk.put {m : Dm} (h : KeysOk m) {b : Int} (n : Int) (hb : 0 ≤ b ∧ b < 16) : KeysOk (dput m b n) := by
  have e := keys_put m b n
  by_cases q : (m.any fun p => decide (p.1 = b)) = true
  · rw [if_pos q] at e
    exact ⟨by rw [e]; exact h.nd, by rw [e]; exact h.le⟩
  · rw [if_neg q] at e
    refine ⟨?_, ?_⟩
    · rw [e]
      refine nd_snoc h.nd fun hm => q ?_
      obtain ⟨p, hp, e2⟩ := List.mem_map.mp hm
      exact List.any_eq_true.mpr ⟨p, hp, decide_eq_true e2⟩
    · rw [e]
      intro k hk
      rcases List.mem_append.mp hk with hk | hk
      · exact h.le k hk
      · rw [List.mem_singleton.mp hk]; exact hb
theorem KeysOk.all : ∀ (top m : Dm), KeysOk m → KeysOk top → KeysOk (putAll m top)
  | [], m, h, _ => h
  | p :: r, m, h, ht => by
    have h1 := ht.le p.1 (by simp [keysM])
    have h2 : KeysOk r := ⟨(List.nodup_cons.mp ht.nd).2, fun k hk => ht.le k (List.mem_cons_of_mem _ hk)⟩
    exact KeysOk.all r (dput m p.1 p.2) (h.put p.2 h1) h2
theorem sortK_range {m : Dm} (h : KeysOk m) : sortK m = ((List.range 16).filter fun i : Nat => (dget m (i : Int)).isSome).map fun i : Nat => (i : Int) := by
  refine (sortK_is ?_ ?_).symm
  · refine (List.perm_ext_iff_of_nodup ?_ h.nd).mpr fun k => ?_
    · exact List.Pairwise.map _ (fun a b (hab : a ≠ b) => by omega) ((List.nodup_range).filter _)
    · rw [List.mem_map]
      constructor
      · rintro ⟨i, hi, rfl⟩
        have := (List.mem_filter.mp hi).2
        rw [← dget_any] at this
        obtain ⟨p, hp, q⟩ := List.any_eq_true.mp this
        exact List.mem_map.mpr ⟨p, hp, of_decide_eq_true q⟩
      · intro hk
        have h1 := h.le k hk
        obtain ⟨n, hn⟩ := dget_in hk
        refine ⟨k.toNat, List.mem_filter.mpr ⟨List.mem_range.mpr (by omega), ?_⟩, by omega⟩
        rw [show ((k.toNat : Nat) : Int) = k by omega, hn]; rfl
  · have h1 : (List.range 16).Pairwise (· < ·) := List.pairwise_lt_range
    exact List.Pairwise.map _ (fun a b (hab : a < b) => by omega) (h1.filter _)
theorem KeysOk.len {m : Dm} (h : KeysOk m) : m.length ≤ 16 := by
  have h1 : (sortK m).length = m.length := by rw [(sortK_perm m).length_eq]; exact List.length_map _
  rw [← h1, sortK_range h, List.length_map]
  have h2 := List.length_filter_le (fun i : Nat => (dget m (i : Int)).isSome) (List.range 16)
  rwa [List.length_range] at h2
theorem bx_range {m : Dm} (h : KeysOk m) : bx m = ((List.range 16).filter fun i : Nat => (dget m (i : Int)).isSome).map fun i : Nat => ((i : Int), (dget m (i : Int)).getD 0) := by
  unfold bx
  rw [sortK_range h, List.map_map]
  rfl
def hide (M : List Addr) (H : Hp) : Hp := fun a => if a ∈ M then none else H a
section
variable {M M' F F' G : List Addr} {H H' : Hp} {a : Addr} {o : HO}
theorem hide_in (h : a ∈ M) : hide M H a = none := by unfold hide; rw [if_pos h]
theorem hide_out (h : a ∉ M) : hide M H a = H a := by unfold hide; rw [if_neg h]
theorem hide_at (h : H a = some o) (n : a ∉ M) : hide M H a = some o := by rw [hide_out n]; exact h
theorem hide_ex : Ex (hide M H) H := fun a o h => by
  by_cases q : a ∈ M
  · rw [hide_in q] at h; cases h
  · rwa [hide_out q] at h
theorem hide_chg (c : Chg M M' H H') : Ex (hide M H) (hide M' H') := fun a o h => by
  by_cases q : a ∈ M
  · rw [hide_in q] at h; cases h
  · rw [hide_out q] at h
    refine hide_at (c.keep a o h q) fun m => ?_
    rcases c.grow a m with z | z
    · exact q z
    · rw [h] at z; cases z
theorem Chg.frame (c : Chg F F' H H') (G : List Addr) : Chg (F ++ G) (F' ++ G) H H' :=
  ⟨fun a o h n => c.keep a o h fun m => n (List.mem_append_left _ m), fun a m => by
    rcases List.mem_append.mp m with m | m
    · rcases c.grow a m with z | z
      · exact .inl (List.mem_append_left _ z)
      · exact .inr z
    · exact .inl (List.mem_append_right _ m)⟩
theorem Chg.framel (c : Chg F F' H H') (G : List Addr) : Chg (G ++ F) (G ++ F') H H' :=
  ⟨fun a o h n => c.keep a o h fun m => n (List.mem_append_right _ m), fun a m => by
    rcases List.mem_append.mp m with m | m
    · exact .inl (List.mem_append_left _ m)
    · rcases c.grow a m with z | z
      · exact .inl (List.mem_append_right _ z)
      · exact .inr z⟩
theorem Chg.wr (h : a ∈ F) : Chg F F H (upd H a o) := ⟨fun b u e n => by rw [upd_ne (by rintro rfl; exact n h)]; exact e, fun _ m => .inl m⟩
theorem Chg.new (e : Ex H H') (h : H a = none) : Chg F (a :: F) H H' := ⟨fun b u q _ => e b u q, fun b m => by
  rcases List.mem_cons.mp m with rfl | m
  · exact .inr h
  · exact .inl m⟩
theorem made {C x dx : Addr} (hx : H x = none) (hdx : H dx = none) (c : Chg [x] F' (upd (upd H dx (.own x)) x (.ins C dx [])) H') : Chg [] F' H H' := by
  refine ⟨fun a o h _ => c.keep a o ?_ ?_, fun a m => .inr ?_⟩
  · rw [upd_ne (ne_of_none h hx), upd_ne (ne_of_none h hdx)]; exact h
  · intro q
    rw [List.mem_singleton.mp q, hx] at h
    cases h
  · rcases c.grow a m with q | q
    · rw [List.mem_singleton.mp q]; exact hx
    · by_cases e : a = x
      · rw [e]; exact hx
      · rw [upd_ne e] at q
        by_cases e2 : a = dx
        · rw [e2]; exact hdx
        · rw [upd_ne e2] at q; exact q
end
end RT

set_option Elab.async false
set_option linter.all false
set_option maxRecDepth 100000
set_option maxHeartbeats 4000000
set_option autoImplicit false
namespace RT
open PySem L2
local macro_rules | `(tactic| walk_at "putf") => `(tactic| first | exact putF_nil | exact putF_hit | exact putF_miss (by decide) (by walk_at "putf"))
local macro_rules | `(tactic| walk_at "ne") => `(tactic| first | assumption | exact Ne.symm (by assumption) | ((refine' ne2 ?h1 ?h2); (case h1 => assumption); (case h2 => walk_at "hk")) | ((refine' ne2s ?h1 ?h2); (case h1 => assumption); (case h2 => walk_at "hk")) | exact ne_head (by assumption) | exact ne_of (by assumption) (by assumption) (by intro z; cases z))
local macro_rules | `(tactic| walk_at "hk") => `(tactic| first | assumption | with_reducible exact upd_same | ((with_reducible refine' up_ne ?h1 ?h2); (case h1 => walk_at "ne"); (case h2 => walk_at "hk")) | ((with_reducible refine' ex_at ?h1 ?h2); (case h1 => assumption); (case h2 => walk_at "hk")))
local macro_rules | `(tactic| walk_at "kit") => `(tactic| first | exact kit_int_int | exact kit_int_bool | exact kit_int_str | exact kit_int_list | exact kit_int_tuple | exact kit_int_dict | exact kit_bool_int | exact kit_bool_bool | exact kit_bool_str | exact kit_bool_list | exact kit_bool_tuple | exact kit_bool_dict | exact kit_str_int | exact kit_str_bool | exact kit_str_str | exact kit_str_list | exact kit_str_tuple | exact kit_str_dict | exact kit_NoneType_int | exact kit_NoneType_bool | exact kit_NoneType_str | exact kit_NoneType_list | exact kit_NoneType_tuple | exact kit_NoneType_dict | exact kit_list_int | exact kit_list_bool | exact kit_list_str | exact kit_list_list | exact kit_list_tuple | exact kit_list_dict | exact kit_tuple_int | exact kit_tuple_bool | exact kit_tuple_str | exact kit_tuple_list | exact kit_tuple_tuple | exact kit_tuple_dict | exact kit_dict_int | exact kit_dict_bool | exact kit_dict_str | exact kit_dict_list | exact kit_dict_tuple | exact kit_dict_dict)
local macro_rules | `(tactic| walk_at "sq") => `(tactic| first | assumption | ((with_reducible refine' SqL.of ?h); (case h => walk_at "hk")) | ((with_reducible refine' ex_sq ?h1 ?h2); (case h1 => assumption); (case h2 => walk_at "sq")))
local macro_rules | `(tactic| walk_at "st") => `(tactic| first | assumption | ((with_reducible refine' SqT.of ?h); (case h => walk_at "hk")) | ((with_reducible refine' ex_st ?h1 ?h2); (case h1 => assumption); (case h2 => walk_at "st")))
local macro_rules | `(tactic| walk_at "new") => `(tactic| (intro p hp; generalize hU : upd _ p _ = H'; have e1 := new_ex hp hU; have e2 := new_at hU; clear hU))
local macro_rules | `(tactic| walk_at "set") => `(tactic| ((try simp only [List.set_cons_succ, List.set_cons_zero]); rfl))
local macro_rules | `(tactic| walk_at "small") => `(tactic| first | assumption | (rw [sizeLine_eq]; (try simp only [List.length_cons, List.length_nil, str_len_app, sign_len]); omega) | (with_unfolding_all decide))
local macro_rules | `(tactic| walk_at "sc") => `(tactic| first | assumption | decide | omega | (unfold CMul; omega) | (unfold CDiv; omega) | (unfold CPow; decide) | (unfold CDiv; decide))
local macro_rules | `(tactic| walk_at "step") => `(tactic| first
  | with_reducible refine' w_seq ?_
  | with_reducible refine' w_op ?_
  | ((with_reducible refine' w_var ?h ?_); (case h => rfl))
  | with_reducible refine' w_c ?_
  | with_reducible refine' w_i0 ?_
  | with_reducible refine' w_cons ?_
  | with_reducible refine' w_nil ?_
  | with_reducible refine' w_asg ?_
  | ((with_reducible refine' w_gn ?e ?_); (case e => walk_at "set"))
  | with_reducible refine' w_ifS ?_
  | with_reducible refine' w_test ?_
  | with_reducible refine' w_tB ?_
  | with_reducible refine' w_bl ?_
  | with_reducible refine' w_int ?_
  | with_reducible refine' w_ref ?_
  | with_reducible refine' w_str ?_
  | with_reducible refine' w_eqI ?_
  | with_reducible refine' w_neI ?_
  | with_reducible refine' w_eqS ?_
  | with_reducible refine' w_neS ?_
  | with_reducible refine' w_ret ?_
  | with_reducible refine' w_for ?_
  | with_reducible refine' w_tFld ?_
  | ((with_reducible refine' w_fld ?h ?c ?n ?l ?_); (case h => walk_at "hk"); (case c => assumption); (case n => assumption); (case l => rfl))
  | with_reducible refine' w_sFld ?_
  | ((with_reducible refine' w_rsFld ?h ?c ?n ?l ?e ?_); (case h => walk_at "hk"); (case c => assumption); (case n => assumption); (case e => walk_at "putf"); (case l => (simp only [List.length_cons, List.length_nil]; omega)))
  | with_reducible refine' w_tDGet ?_
  | with_reducible refine' w_tDIn ?_
  | with_reducible refine' w_tDNotIn ?_
  | ((with_reducible refine' w_dinI ?h ?_); (case h => walk_at "hk"))
  | with_reducible refine' w_sDPut ?_
  | with_reducible refine' w_bm ?_
  | with_reducible refine' w_bm0 ?_
  | ((with_reducible refine' w_tyL ?h ?_); (case h => walk_at "sq"))
  | with_reducible refine' w_iRev ?_
  | ((with_reducible refine' w_rev1 ?h ?_); (case h => walk_at "sq"))
  | with_reducible refine' w_iItems ?_
  | with_reducible refine' w_iKeys ?_
  | with_reducible refine' w_iRng3 ?_
  | with_reducible refine' w_iZip ?_
  | with_reducible refine' w_gCons ?_
  | with_reducible refine' w_gNil ?_
  | ((with_reducible refine' w_gTup ?h ?l ?_); (case h => walk_at "st"); (case l => rfl))
  | with_reducible refine' w_m1 ?_
  | with_reducible refine' w_isS ?_
  | with_reducible refine' w_lc ?_
  | with_reducible refine' w_iList ?_
  | with_reducible refine' w_iTup ?_
  | with_reducible refine' w_iStr ?_
  | with_reducible refine' w_iRng1 ?_
  | with_reducible refine' w_iRng2 ?_
  | with_reducible refine' w_v1I ?_
  | with_reducible refine' w_v2I ?_
  | with_reducible refine' w_next ?_
  | with_reducible refine' w_call ?_
  | with_reducible refine' w_cb ?_
  | with_reducible refine' w_and ?_
  | with_reducible refine' w_or ?_
  | with_reducible refine' w_not ?_
  | with_reducible refine' w_andV ?_
  | with_reducible refine' w_orV ?_
  | with_reducible refine' w_notV ?_
  | with_reducible refine' w_ifE ?_
  | with_reducible refine' w_drop ?_
  | with_reducible refine' w_un ?_
  | with_reducible refine' w_u ?_
  | with_reducible refine' w_isNN ?_
  | with_reducible refine' w_isNI ?_
  | with_reducible refine' w_isNS ?_
  | with_reducible refine' w_isNR ?_
  | with_reducible refine' w_notNN ?_
  | with_reducible refine' w_notNI ?_
  | with_reducible refine' w_notNS ?_
  | with_reducible refine' w_notNR ?_
  | with_reducible refine' w_int1 ?_
  | with_reducible refine' w_int1b ?_
  | with_reducible refine' w_tup ?_
  | with_reducible refine' w_lst ?_
  | with_reducible refine' w_dnew ?_
  | with_reducible refine' w_sl ?_
  | with_reducible refine' w_noPart ?_
  | with_reducible refine' w_part ?_
  | with_reducible refine' w_retN ?_
  | with_reducible refine' w_brk ?_
  | with_reducible refine' w_cont ?_
  | with_reducible refine' w_chain ?_
  | with_reducible refine' w_lt ?_
  | with_reducible refine' w_le ?_
  | with_reducible refine' w_gt ?_
  | with_reducible refine' w_ge ?_
  | with_reducible refine' w_ltS ?_
  | with_reducible refine' w_leS ?_
  | with_reducible refine' w_gtS ?_
  | with_reducible refine' w_geS ?_
  | ((with_reducible refine' w_addS ?h ?_); (case h => walk_at "small"))
  | with_reducible refine' w_inS ?_
  | with_reducible refine' w_ninS ?_
  | with_reducible refine' w_par ?_
  | with_reducible refine' w_v2 ?_
  | with_reducible refine' w_max2 ?_
  | with_reducible refine' w_min2 ?_
  | with_reducible refine' w_tru ?_
  | with_reducible refine' w_meth ?_
  | ((with_reducible refine' w_meth1 ?h ?l ?_); (case h => walk_at "hk"); (case l => rfl))
  | with_reducible refine' w_make ?_
  | ((with_reducible refine' w_isiI ?h ?_); (case h => walk_at "kit"))
  | ((with_reducible refine' w_isiB ?h ?_); (case h => walk_at "kit"))
  | ((with_reducible refine' w_isiN ?h ?_); (case h => walk_at "kit"))
  | ((with_reducible refine' w_isiS ?h ?_); (case h => walk_at "kit"))
  | ((with_reducible refine' w_isiSL ?h ?e ?_); (case h => walk_at "sq"); (case e => walk_at "kit"))
  | ((with_reducible refine' w_isiST ?h ?e ?_); (case h => walk_at "st"); (case e => walk_at "kit"))
  | ((with_reducible refine' w_i ?h ?_); (case h => walk_at "sc"))
  | with_reducible refine' w_ttL ?_
  | with_reducible refine' w_ffL ?_
  | ((with_reducible refine' w_tt ?h ?_); (case h => first | exact dB_t (by decide) | exact nB_t (by decide) | decide))
  | ((with_reducible refine' w_ff ?h ?_); (case h => first | exact dB_f (by decide) | exact nB_f (by decide) | decide))
  | ((with_reducible refine' w_lenS ?h ?_); (case h => walk_at "sq"))
  | ((with_reducible refine' w_lenT ?h ?_); (case h => walk_at "st"))
  | ((with_reducible refine' w_slL ?h ?_); (case h => walk_at "sq"))
  | ((with_reducible refine' w_aug ?h ?_); (case h => rfl))
  | with_reducible refine' w_ip ?_
  | ((with_reducible refine' w_cat ?h1 ?h2 ?h3 ?_); (case h1 => walk_at "hk"); (case h2 => walk_at "hk"); (case h3 => walk_at "small"))
  | ((with_reducible refine' w_ixL ?h1 ?h2 ?_); (case h1 => walk_at "sq"); (case h2 => rfl))
  | ((with_reducible refine' w_ixT ?h1 ?h2 ?_); (case h1 => walk_at "st"); (case h2 => rfl))
  | ((with_reducible refine' w_lenStr ?h ?_); (case h => walk_at "small"))
  | ((with_reducible refine' w_slS ?h ?_); (case h => walk_at "small"))
  | ((with_reducible refine' w_sz ?h ?_); (case h => walk_at "small")))
local macro_rules | `(tactic| walk_at "go") => `(tactic| (repeat (first | walk_at "step" | walk_at "callx")))
local macro_rules | `(tactic| walk_at "goN") => `(tactic| (repeat (first | walk_at "step" | walk_at "callx" | ((with_reducible show ∀ p, _ = none → _); walk_at "new"))))
local macro_rules | `(tactic| walk_at "len") => `(tactic| first
  | (obtain ⟨rfl, _⟩ := h; rfl) | (obtain ⟨_, rfl, _⟩ := h; rfl) | (obtain ⟨_, _, rfl, _⟩ := h; rfl) | (obtain ⟨_, _, _, rfl, _⟩ := h; rfl) | (obtain ⟨_, _, _, _, rfl, _⟩ := h; rfl)
  | (obtain ⟨_, _, _, _, _, rfl, _⟩ := h; rfl) | (obtain ⟨_, _, _, _, _, _, rfl, _⟩ := h; rfl) | (obtain ⟨_, _, _, _, _, _, _, rfl, _⟩ := h; rfl) | (obtain ⟨_, _, _, _, _, _, _, _, rfl, _⟩ := h; rfl)
  | (obtain ⟨_, _, _, _, _, _, _, _, _, rfl, _⟩ := h; rfl) | (obtain ⟨_, _, _, _, _, _, _, _, _, _, rfl, _⟩ := h; rfl))
local macro_rules | `(tactic| walk_at "dec") => `(tactic| (first | with_reducible apply w_dec | with_reducible apply w_ndec | with_reducible apply w_bool) <;> intro hc)
def nice : Nat → PyData → Bool
  | 0, _ => false
  | _ + 1, .int _ => true
  | _ + 1, .str _ => true
  | n + 1, .list ds => decide (ds.length ≤ 100000) && ds.all (nice n)
  | n + 1, .tuple ds => decide (ds.length ≤ 100000) && ds.all (nice n)
  | _ + 1, _ => false
def spN_l_alike (n : Nat) (d : Ad) : Sp := fun vs H Q _ => ∃ (x y : V), vs = [x, y] ∧ ∃ dd, Dp d.K H x dd ∧ Dp d.K H y dd ∧ nice n dd = true ∧ Q (.bl true) H
abbrev sp_l_alike (d : Ad) : Sp := spN_l_alike 8 d
theorem no_l_alike {d : Ad} {vs : List V} {H : Hp} {Q : VK} {E : XK} (h : spN_l_alike 0 d vs H Q E) : False := by
  obtain ⟨x, y, _, dd, _, _, h, _⟩ := h
  cases h
abbrev N_l_alike : List Str := ["_law_found", "_law_due", "_law_k"]
def t_l_alike (n : Nat) (d : Ad) : TS :=
  (tSeq (tIfS (tB (tCB (rIsi d.K) (tCons (tVar 1) (tCons (tC (.ty "int")) tNil)))) (tRet (tAndV (tCB (rIsi d.K) (tCons (tVar 0) (tCons (tC (.ty "int")) tNil))) (tAndV (tNotV (tCB (rIsi d.K) (tCons (tVar 0) (tCons (tC (.ty "bool")) tNil)))) (tOp rEq (tVar 0) (tVar 1))))) tNext)
  (tSeq (tIfS (tB (tCB (rIsi d.K) (tCons (tVar 1) (tCons (tC (.ty "str")) tNil)))) (tRet (tAndV (tCB (rIsi d.K) (tCons (tVar 0) (tCons (tC (.ty "str")) tNil))) (tOp rEq (tVar 0) (tVar 1)))) tNext)
  (tSeq (tIfS (tB (tCB (rIsi d.K) (tCons (tVar 1) (tCons (tC (.ty "tuple")) tNil)))) (tIfS (tNot (tB (tCB (rIsi d.K) (tCons (tVar 0) (tCons (tC (.ty "tuple")) tNil))))) (tRet (tC (.bl false))) tNext) (tIfS (tNot (tB (tCB (rIsi d.K) (tCons (tVar 0) (tCons (tC (.ty "list")) tNil))))) (tRet (tC (.bl false))) tNext))
  (tSeq (tIfS (tTest (tOp rNe (tCB (Evl.rLenS d.K) (tCons (tVar 0) tNil)) (tCB (Evl.rLenS d.K) (tCons (tVar 1) tNil)))) (tRet (tC (.bl false))) tNext)
  (tSeq (tFor (iRng1 (tCons (tCB (Evl.rLenS d.K) (tCons (tVar 1) tNil)) tNil)) (gName 2) (tIfS (tNot (tB (tCall (spN_l_alike n d) [] E0 (tCons (tOp (rIx d.K) (tVar 0) (tVar 2)) (tCons (tOp (rIx d.K) (tVar 1) (tVar 2)) tNil))))) (tRet (tC (.bl false))) tNext))
  (tRet (tC (.bl true))))))))
local macro_rules | `(tactic| walk_at "callx") => `(tactic| fail)
theorem dpAll_len {K : PySem.W.Frag} {H : Hp} : ∀ {vs : List V} {ds : List PyData}, DpAll K H vs ds → vs.length = ds.length
  | [], [], _ => rfl
  | _ :: _, _ :: _, h => by cases h with | cons _ h2 => simp [dpAll_len h2]
  | [], _ :: _, h => by cases h
  | _ :: _, [], h => by cases h
theorem dpAll_get {K : PySem.W.Frag} {H : Hp} : ∀ {vs : List V} {ds : List PyData} {i : Nat} {v : V}, DpAll K H vs ds → vs[i]? = some v → ∃ e, ds[i]? = some e ∧ Dp K H v e
  | _, _, _, _, .nil, e => by simp at e
  | _, _, 0, _, .cons r _, e => by simp at e; subst e; exact ⟨_, rfl, r⟩
  | _, _, i + 1, x, .cons _ t, e => by
    obtain ⟨u, h1, h2⟩ := dpAll_get (i := i) (v := x) t (by simpa using e)
    exact ⟨u, by simpa using h1, h2⟩
section
variable {n : Nat} {d : Ad} {vs : List V} {H : Hp} {Q : VK} {E : XK}
theorem c_alike {x y : V} {dd : PyData} (h1 : Dp d.K H x dd) (h2 : Dp d.K H y dd) (h3 : nice n dd = true) (q : Q (.bl true) H) : spN_l_alike n d [x, y] H Q E := ⟨x, y, rfl, dd, h1, h2, h3, q⟩
theorem pure_l_alike (h : spN_l_alike (n + 1) d vs H Q E) : t_l_alike n d { nx := fun _ H' => Q .non H', rt := Q } (start N_l_alike vs) H := by
  obtain ⟨x, y, rfl, dd, h1, h2, h3, k⟩ := h
  show t_l_alike n d _ [some x, some y, none] H
  unfold t_l_alike
  cases dd with
  | none => cases h3
  | bool b => cases h3
  | dict _ => cases h3
  | int i =>
    cases h1; cases h2
    walk_at "go"
    rw [dB_t rfl]
    exact k
  | str s =>
    cases h1; cases h2
    walk_at "go"
    rw [dB_t rfl]
    exact k
  | list ds =>
    obtain ⟨h3, h4⟩ := Bool.and_eq_true_iff.mp h3
    have h3 := of_decide_eq_true h3
    cases h1 with | @lst a xs _ hs1 ha1 =>
    cases h2 with | @lst b ys _ hs2 ha2 =>
    have l1 := dpAll_len ha1
    have l2 := dpAll_len ha2
    walk_at "go"
    refine w_ff (nB_f (by omega)) ?_
    walk_at "go"
    refine f_rng (by omega) (by omega) (fun i σ H' => H' = H ∧ ∃ z, σ = [some (.ref a), some (.ref b), z]) ⟨rfl, _, rfl⟩ ?_ ?_
    · rintro i σ H1 hi ⟨rfl, z, rfl⟩
      have hx := List.getElem?_eq_getElem (l := xs) (i := i) (by omega)
      have hy := List.getElem?_eq_getElem (l := ys) (i := i) (by omega)
      obtain ⟨e1, q1, q2⟩ := dpAll_get ha1 hx
      obtain ⟨e2, q3, q4⟩ := dpAll_get ha2 hy
      rw [q1] at q3; cases q3
      walk_at "go"
      refine w_ixAL hs1 (atI_nat hx) ?_
      walk_at "go"
      refine w_ixAL hs2 (atI_nat hy) ?_
      walk_at "go"
      refine c_alike q2 q4 (List.all_eq_true.mp h4 _ (List.mem_of_getElem? q1)) ?_
      walk_at "go"
      exact ⟨rfl, _, rfl⟩
    · rintro σ H1 ⟨rfl, z, rfl⟩
      walk_at "go"
      exact k
  | tuple ds =>
    obtain ⟨h3, h4⟩ := Bool.and_eq_true_iff.mp h3
    have h3 := of_decide_eq_true h3
    cases h1 with | @tup a xs _ hs1 ha1 =>
    cases h2 with | @tup b ys _ hs2 ha2 =>
    have l1 := dpAll_len ha1
    have l2 := dpAll_len ha2
    walk_at "go"
    refine w_ff (nB_f (by omega)) ?_
    walk_at "go"
    refine f_rng (by omega) (by omega) (fun i σ H' => H' = H ∧ ∃ z, σ = [some (.ref a), some (.ref b), z]) ⟨rfl, _, rfl⟩ ?_ ?_
    · rintro i σ H1 hi ⟨rfl, z, rfl⟩
      have hx := List.getElem?_eq_getElem (l := xs) (i := i) (by omega)
      have hy := List.getElem?_eq_getElem (l := ys) (i := i) (by omega)
      obtain ⟨e1, q1, q2⟩ := dpAll_get ha1 hx
      obtain ⟨e2, q3, q4⟩ := dpAll_get ha2 hy
      rw [q1] at q3; cases q3
      walk_at "go"
      refine w_ixAT hs1 (atI_nat hx) ?_
      walk_at "go"
      refine w_ixAT hs2 (atI_nat hy) ?_
      walk_at "go"
      refine c_alike q2 q4 (List.all_eq_true.mp h4 _ (List.mem_of_getElem? q1)) ?_
      walk_at "go"
      exact ⟨rfl, _, rfl⟩
    · rintro σ H1 ⟨rfl, z, rfl⟩
      walk_at "go"
      exact k
end
end RT

set_option Elab.async false
set_option linter.all false
set_option maxRecDepth 100000
set_option maxHeartbeats 1000000
set_option autoImplicit false
namespace RT
open PySem L2
local macro_rules | `(tactic| walk_at "putf") => `(tactic| first | exact putF_nil | exact putF_hit | exact putF_miss (by decide) (by walk_at "putf"))
local macro_rules | `(tactic| walk_at "ne") => `(tactic| first | assumption | exact Ne.symm (by assumption) | ((refine' ne2 ?h1 ?h2); (case h1 => assumption); (case h2 => walk_at "hk")) | ((refine' ne2s ?h1 ?h2); (case h1 => assumption); (case h2 => walk_at "hk")) | exact ne_head (by assumption) | exact ne_of (by assumption) (by assumption) (by intro z; cases z))
local macro_rules | `(tactic| walk_at "hk") => `(tactic| first | assumption | with_reducible exact upd_same | ((with_reducible refine' up_ne ?h1 ?h2); (case h1 => walk_at "ne"); (case h2 => walk_at "hk")) | ((with_reducible refine' ex_at ?h1 ?h2); (case h1 => assumption); (case h2 => walk_at "hk")))
local macro_rules | `(tactic| walk_at "kit") => `(tactic| first | exact kit_int_int | exact kit_int_bool | exact kit_int_str | exact kit_int_list | exact kit_int_tuple | exact kit_int_dict | exact kit_bool_int | exact kit_bool_bool | exact kit_bool_str | exact kit_bool_list | exact kit_bool_tuple | exact kit_bool_dict | exact kit_str_int | exact kit_str_bool | exact kit_str_str | exact kit_str_list | exact kit_str_tuple | exact kit_str_dict | exact kit_NoneType_int | exact kit_NoneType_bool | exact kit_NoneType_str | exact kit_NoneType_list | exact kit_NoneType_tuple | exact kit_NoneType_dict | exact kit_list_int | exact kit_list_bool | exact kit_list_str | exact kit_list_list | exact kit_list_tuple | exact kit_list_dict | exact kit_tuple_int | exact kit_tuple_bool | exact kit_tuple_str | exact kit_tuple_list | exact kit_tuple_tuple | exact kit_tuple_dict | exact kit_dict_int | exact kit_dict_bool | exact kit_dict_str | exact kit_dict_list | exact kit_dict_tuple | exact kit_dict_dict)
local macro_rules | `(tactic| walk_at "sq") => `(tactic| first | assumption | ((with_reducible refine' SqL.of ?h); (case h => walk_at "hk")) | ((with_reducible refine' ex_sq ?h1 ?h2); (case h1 => assumption); (case h2 => walk_at "sq")))
local macro_rules | `(tactic| walk_at "st") => `(tactic| first | assumption | ((with_reducible refine' SqT.of ?h); (case h => walk_at "hk")) | ((with_reducible refine' ex_st ?h1 ?h2); (case h1 => assumption); (case h2 => walk_at "st")))
local macro_rules | `(tactic| walk_at "new") => `(tactic| (intro p hp; generalize hU : upd _ p _ = H'; have e1 := new_ex hp hU; have e2 := new_at hU; clear hU))
local macro_rules | `(tactic| walk_at "set") => `(tactic| ((try simp only [List.set_cons_succ, List.set_cons_zero]); rfl))
local macro_rules | `(tactic| walk_at "small") => `(tactic| first | assumption | (rw [sizeLine_eq]; (try simp only [List.length_cons, List.length_nil, str_len_app, sign_len]); omega) | (with_unfolding_all decide))
local macro_rules | `(tactic| walk_at "sc") => `(tactic| first | assumption | decide | omega | (unfold CMul; omega) | (unfold CDiv; omega) | (unfold CPow; decide) | (unfold CDiv; decide))
local macro_rules | `(tactic| walk_at "step") => `(tactic| first
  | with_reducible refine' w_seq ?_
  | with_reducible refine' w_op ?_
  | ((with_reducible refine' w_var ?h ?_); (case h => rfl))
  | with_reducible refine' w_c ?_
  | with_reducible refine' w_i0 ?_
  | with_reducible refine' w_cons ?_
  | with_reducible refine' w_nil ?_
  | with_reducible refine' w_asg ?_
  | ((with_reducible refine' w_gn ?e ?_); (case e => walk_at "set"))
  | with_reducible refine' w_ifS ?_
  | with_reducible refine' w_test ?_
  | with_reducible refine' w_tB ?_
  | with_reducible refine' w_bl ?_
  | with_reducible refine' w_int ?_
  | with_reducible refine' w_ref ?_
  | with_reducible refine' w_str ?_
  | with_reducible refine' w_eqI ?_
  | with_reducible refine' w_neI ?_
  | with_reducible refine' w_eqS ?_
  | with_reducible refine' w_neS ?_
  | with_reducible refine' w_ret ?_
  | with_reducible refine' w_for ?_
  | with_reducible refine' w_tFld ?_
  | ((with_reducible refine' w_fld ?h ?c ?n ?l ?_); (case h => walk_at "hk"); (case c => assumption); (case n => assumption); (case l => rfl))
  | with_reducible refine' w_sFld ?_
  | ((with_reducible refine' w_rsFld ?h ?c ?n ?l ?e ?_); (case h => walk_at "hk"); (case c => assumption); (case n => assumption); (case e => walk_at "putf"); (case l => (simp only [List.length_cons, List.length_nil]; omega)))
  | with_reducible refine' w_tDGet ?_
  | with_reducible refine' w_tDIn ?_
  | with_reducible refine' w_tDNotIn ?_
  | ((with_reducible refine' w_dinI ?h ?_); (case h => walk_at "hk"))
  | with_reducible refine' w_sDPut ?_
  | with_reducible refine' w_bm ?_
  | with_reducible refine' w_bm0 ?_
  | ((with_reducible refine' w_tyL ?h ?_); (case h => walk_at "sq"))
  | with_reducible refine' w_iRev ?_
  | ((with_reducible refine' w_rev1 ?h ?_); (case h => walk_at "sq"))
  | with_reducible refine' w_iItems ?_
  | with_reducible refine' w_iKeys ?_
  | with_reducible refine' w_iRng3 ?_
  | with_reducible refine' w_iZip ?_
  | with_reducible refine' w_gCons ?_
  | with_reducible refine' w_gNil ?_
  | ((with_reducible refine' w_gTup ?h ?l ?_); (case h => walk_at "st"); (case l => rfl))
  | with_reducible refine' w_m1 ?_
  | with_reducible refine' w_isS ?_
  | with_reducible refine' w_lc ?_
  | with_reducible refine' w_iList ?_
  | with_reducible refine' w_iTup ?_
  | with_reducible refine' w_iStr ?_
  | with_reducible refine' w_iRng1 ?_
  | with_reducible refine' w_iRng2 ?_
  | with_reducible refine' w_v1I ?_
  | with_reducible refine' w_v2I ?_
  | with_reducible refine' w_next ?_
  | with_reducible refine' w_call ?_
  | with_reducible refine' w_cb ?_
  | with_reducible refine' w_and ?_
  | with_reducible refine' w_or ?_
  | with_reducible refine' w_not ?_
  | with_reducible refine' w_andV ?_
  | with_reducible refine' w_orV ?_
  | with_reducible refine' w_notV ?_
  | with_reducible refine' w_ifE ?_
  | with_reducible refine' w_drop ?_
  | with_reducible refine' w_un ?_
  | with_reducible refine' w_u ?_
  | with_reducible refine' w_isNN ?_
  | with_reducible refine' w_isNI ?_
  | with_reducible refine' w_isNS ?_
  | with_reducible refine' w_isNR ?_
  | with_reducible refine' w_notNN ?_
  | with_reducible refine' w_notNI ?_
  | with_reducible refine' w_notNS ?_
  | with_reducible refine' w_notNR ?_
  | with_reducible refine' w_int1 ?_
  | with_reducible refine' w_int1b ?_
  | with_reducible refine' w_tup ?_
  | with_reducible refine' w_lst ?_
  | with_reducible refine' w_dnew ?_
  | with_reducible refine' w_sl ?_
  | with_reducible refine' w_noPart ?_
  | with_reducible refine' w_part ?_
  | with_reducible refine' w_retN ?_
  | with_reducible refine' w_brk ?_
  | with_reducible refine' w_cont ?_
  | with_reducible refine' w_chain ?_
  | with_reducible refine' w_lt ?_
  | with_reducible refine' w_le ?_
  | with_reducible refine' w_gt ?_
  | with_reducible refine' w_ge ?_
  | with_reducible refine' w_ltS ?_
  | with_reducible refine' w_leS ?_
  | with_reducible refine' w_gtS ?_
  | with_reducible refine' w_geS ?_
  | ((with_reducible refine' w_addS ?h ?_); (case h => walk_at "small"))
  | with_reducible refine' w_inS ?_
  | with_reducible refine' w_ninS ?_
  | with_reducible refine' w_par ?_
  | with_reducible refine' w_v2 ?_
  | with_reducible refine' w_max2 ?_
  | with_reducible refine' w_min2 ?_
  | with_reducible refine' w_tru ?_
  | with_reducible refine' w_meth ?_
  | ((with_reducible refine' w_meth1 ?h ?l ?_); (case h => walk_at "hk"); (case l => rfl))
  | with_reducible refine' w_make ?_
  | ((with_reducible refine' w_isiI ?h ?_); (case h => walk_at "kit"))
  | ((with_reducible refine' w_isiB ?h ?_); (case h => walk_at "kit"))
  | ((with_reducible refine' w_isiN ?h ?_); (case h => walk_at "kit"))
  | ((with_reducible refine' w_isiS ?h ?_); (case h => walk_at "kit"))
  | ((with_reducible refine' w_isiSL ?h ?e ?_); (case h => walk_at "sq"); (case e => walk_at "kit"))
  | ((with_reducible refine' w_isiST ?h ?e ?_); (case h => walk_at "st"); (case e => walk_at "kit"))
  | ((with_reducible refine' w_i ?h ?_); (case h => walk_at "sc"))
  | with_reducible refine' w_ttL ?_
  | with_reducible refine' w_ffL ?_
  | ((with_reducible refine' w_tt ?h ?_); (case h => first | exact dB_t (by decide) | exact nB_t (by decide) | decide))
  | ((with_reducible refine' w_ff ?h ?_); (case h => first | exact dB_f (by decide) | exact nB_f (by decide) | decide))
  | ((with_reducible refine' w_lenS ?h ?_); (case h => walk_at "sq"))
  | ((with_reducible refine' w_lenT ?h ?_); (case h => walk_at "st"))
  | ((with_reducible refine' w_slL ?h ?_); (case h => walk_at "sq"))
  | ((with_reducible refine' w_aug ?h ?_); (case h => rfl))
  | with_reducible refine' w_ip ?_
  | ((with_reducible refine' w_cat ?h1 ?h2 ?h3 ?_); (case h1 => walk_at "hk"); (case h2 => walk_at "hk"); (case h3 => walk_at "small"))
  | ((with_reducible refine' w_ixL ?h1 ?h2 ?_); (case h1 => walk_at "sq"); (case h2 => rfl))
  | ((with_reducible refine' w_ixT ?h1 ?h2 ?_); (case h1 => walk_at "st"); (case h2 => rfl))
  | ((with_reducible refine' w_lenStr ?h ?_); (case h => walk_at "small"))
  | ((with_reducible refine' w_slS ?h ?_); (case h => walk_at "small"))
  | ((with_reducible refine' w_sz ?h ?_); (case h => walk_at "small")))
local macro_rules | `(tactic| walk_at "go") => `(tactic| (repeat (first | walk_at "step" | walk_at "callx")))
local macro_rules | `(tactic| walk_at "goN") => `(tactic| (repeat (first | walk_at "step" | walk_at "callx" | ((with_reducible show ∀ p, _ = none → _); walk_at "new"))))
local macro_rules | `(tactic| walk_at "len") => `(tactic| first
  | (obtain ⟨rfl, _⟩ := h; rfl) | (obtain ⟨_, rfl, _⟩ := h; rfl) | (obtain ⟨_, _, rfl, _⟩ := h; rfl) | (obtain ⟨_, _, _, rfl, _⟩ := h; rfl) | (obtain ⟨_, _, _, _, rfl, _⟩ := h; rfl)
  | (obtain ⟨_, _, _, _, _, rfl, _⟩ := h; rfl) | (obtain ⟨_, _, _, _, _, _, rfl, _⟩ := h; rfl) | (obtain ⟨_, _, _, _, _, _, _, rfl, _⟩ := h; rfl) | (obtain ⟨_, _, _, _, _, _, _, _, rfl, _⟩ := h; rfl)
  | (obtain ⟨_, _, _, _, _, _, _, _, _, rfl, _⟩ := h; rfl) | (obtain ⟨_, _, _, _, _, _, _, _, _, _, rfl, _⟩ := h; rfl))
local macro_rules | `(tactic| walk_at "dec") => `(tactic| (first | with_reducible apply w_dec | with_reducible apply w_ndec | with_reducible apply w_bool) <;> intro hc)
def sp_l_cell_at (d : Ad) : Sp := fun vs H Q _ => ∃ (a : Addr) (ns : List Int) (k : Nat), vs = [.ref a, .int k] ∧ SqL d.K H a (ns.map V.int) ∧ Q (.int (ns.getD k 0)) H
def sp_l_mixed (_ : Ad) : Sp := fun vs H Q _ => ∃ (c : Int), vs = [.int c] ∧ Q (.int (c * 48271 % 999999999989)) H
structure TiersAt (H : Hp) (tl : Addr) (ds : List Addr) (ts : List Dm) : Prop where
  ht : H tl = some (.lst (ds.map V.ref))
  hl : ds.length = ts.length
  hd : ∀ (i : Nat) (x : Addr) (m : Dm), ds[i]? = some x → ts[i]? = some m → H x = some (.dK (encM m))
  nd : (tl :: ds).Nodup
structure OkT (ts : List Dm) : Prop where
  t1 : 1 ≤ ts.length
  t9 : ts.length ≤ 9
  tk : ∀ m ∈ ts, KeysOk m
structure Two (d : Ad) (H : Hp) (x : LA) (tl : Addr) (ds : List Addr) (ts : List Dm) : Prop where
  L : LogAt d H x ts []
  T : TiersAt H tl ds ts
  ok : OkT ts
  dj : ∀ a ∈ x.fp, a ∉ tl :: ds
abbrev Tfp (x : LA) (tl : Addr) (ds : List Addr) : List Addr := x.fp ++ (tl :: ds)
def sp_l_own (_ : Ad) : Sp := fun vs H Q _ => ∃ (tl : Addr) (b : Int) (ds : List Addr) (ts : List Dm), vs = [.ref tl, .int b] ∧ TiersAt H tl ds ts ∧ Q (optV (ownM ts b)) H
def sp_l_done (d : Ad) : Sp := fun vs H Q _ => ∃ (x : LA) (tl : Addr) (mx c bv : Int) (ds : List Addr) (ts : List Dm), vs = [.ref x.p, .ref tl, .int mx, .int c, .int bv] ∧ Two d H x tl ds ts ∧ (0 < bv ∧ bv ≤ 16) ∧
  ∀ x' ds' ts' H', x'.p = x.p → Two d H' x' tl ds' ts' → Chg (Tfp x tl ds) (Tfp x' tl ds') H H' → Q .non H'
def sp_l_stands (d : Ad) : Sp := fun vs H Q _ => ∃ (x : LA) (tl : Addr) (b t : Int) (ds : List Addr) (ts : List Dm), vs = [.ref x.p, .ref tl, .int b, .int t] ∧ Two d H x tl ds ts ∧ ∀ H', Ex H H' → Q (.bl true) H'
abbrev sp_law (d : Ad) : Sp := spLaw d.K
abbrev N_l_cell_at : List Str := ["_law_script", "_law_k"]
def t_l_cell_at (d : Ad) : TS :=
  (tSeq (tIfS (tTest (tOp rLt (tVar 1) (tCB (Evl.rLenS d.K) (tCons (tVar 0) tNil)))) (tRet (tOp (rIxL d.K) (tVar 0) (tVar 1))) tNext)
  (tRet (tC (.int 0))))
abbrev N_l_mixed : List Str := ["_law_cell"]
def t_l_mixed (d : Ad) : TS :=
  (tRet (aMod (aMul (tVar 0) (tC (.int 48271))) (tC (.int 999999999989))))
abbrev N_l_own : List Str := ["_law_tiers", "_law_box", "_law_found", "_law_tier"]
def t_l_own (d : Ad) : TS :=
  (tSeq (tAsg (tC .non) (gName 2))
  (tSeq (tFor (iList d.K (tVar 0)) (gName 3) (tIfS (tB (tDIn (tVar 1) (tVar 3))) (tAsg (tDGet (tVar 3) (tVar 1)) (gName 2)) tNext))
  (tRet (tVar 2))))
abbrev N_l_done : List Str := ["_law_log", "_law_tiers", "_law_mixed_here", "_law_cell", "_law_boxes", "_law_way", "_law_box", "_law_number", "_law_top", "_law_at"]
def t_l_done (d : Ad) : TS :=
  (tSeq (tAsg (aMod (tVar 2) (tC (.int 8))) (gName 5))
  (tSeq (tAsg (aMod (aDiv (tVar 2) (tC (.int 8))) (tVar 4)) (gName 6))
  (tIfS (tTest (tOp rLt (tVar 5) (tC (.int 4)))) (tSeq (tAsg (tOp (rIxL d.K) (tLst (tCons (tC (.int 0)) (tCons (aMod (aDiv (tVar 2) (tC (.int 1000))) (tC (.int 5))) (tCons (aMod (aMul (tVar 3) (tC (.int 982451653))) (aPow (tC (.int 2)) (tC (.int 64)))) (tCons (aSub (aPow (tC (.int 2)) (tC (.int 64))) (tC (.int 1))) tNil))))) (aMod (aDiv (tVar 2) (tC (.int 200))) (tC (.int 4)))) (gName 7))
  (tSeq (tDrop (tMeth d.cLog "write" (sp_Log_write d) [] E0 (tVar 0) (tCons (tVar 6) (tCons (tVar 7) tNil))))
  (sDPut (tOp (rIxL d.K) (tVar 1) (aNeg (tC (.int 1)))) (tVar 6) (tVar 7)))) (tIfS (tTest (tOp rLt (tVar 5) (tC (.int 6)))) (tIfS (tTest (tOp rLt (tCB (Evl.rLenS d.K) (tCons (tVar 1) tNil)) (tC (.int 9)))) (tSeq (tDrop (tMeth d.cLog "begin" (sp_Log_begin d) [] E0 (tVar 0) tNil))
  (tDrop (tBM d.K "list" rAppend (tVar 1) (tCons tDNewK tNil)))) tNext) (tIfS (tTest (tOp rGt (tCB (Evl.rLenS d.K) (tCons (tVar 1) tNil)) (tC (.int 1)))) (tSeq (tAsg (tBM0 d.K "list" rPop (tVar 1)) (gName 8))
  (tIfS (tTest (tOp rEq (tVar 5) (tC (.int 6)))) (tSeq (tDrop (tMeth d.cLog "settle" (sp_Log_settle d) [] E0 (tVar 0) tNil))
  (tLock (tFor (iKeys (tVar 8)) (gName 9) (sDPut (tOp (rIxL d.K) (tVar 1) (aNeg (tC (.int 1)))) (tVar 9) (tDGet (tVar 8) (tVar 9)))))) (tDrop (tMeth d.cLog "drop" (sp_Log_drop d) [] E0 (tVar 0) tNil)))) tNext)))))
abbrev N_l_stands : List Str := ["_law_log", "_law_tiers", "_law_box", "_law_turn", "_law_k", "_law_way", "_law_found", "_law_due", "_law_at"]
def t_l_stands (d : Ad) : TS :=
  (tSeq (tFor (iRng1 (tCons (tC (.int 3)) tNil)) (gName 4) (tSeq (tAsg (aMod (aAdd (tVar 4) (tVar 3)) (tC (.int 3))) (gName 5))
  (tSeq (tIfS (tTest (tOp rEq (tVar 5) (tC (.int 0)))) (tSeq (tAsg (tMeth d.cLog "own" (sp_Log_own d) [] E0 (tVar 0) (tCons (tVar 2) tNil)) (gName 6))
  (tSeq (tAsg (tCall (sp_l_own d) [] E0 (tCons (tVar 1) (tCons (tVar 2) tNil))) (gName 7))
  (tSeq (tIfS (tAnd (tTest (tOp rIsN (tVar 7) (tC .non))) (tTest (tOp rNotN (tVar 6) (tC .non)))) (tRet (tC (.bl false))) tNext)
  (tIfS (tAnd (tTest (tOp rNotN (tVar 7) (tC .non))) (tNot (tB (tCall (sp_l_alike d) [] E0 (tCons (tVar 6) (tCons (tVar 7) tNil)))))) (tRet (tC (.bl false))) tNext)))) tNext)
  (tSeq (tIfS (tAnd (tTest (tOp rEq (tVar 5) (tC (.int 1)))) (tNot (tB (tCall (sp_l_alike d) [] E0 (tCons (tMeth d.cLog "layers" (sp_Log_layers d) [] E0 (tVar 0) tNil) (tCons (tCB (Evl.rLenS d.K) (tCons (tVar 1) tNil)) tNil)))))) (tRet (tC (.bl false))) tNext)
  (tSeq (tAsg (tLc (iList d.K (tCB rSortedD (tCons (tOp (rIxL d.K) (tVar 1) (tC (.int 0))) tNil))) (gName 8) tYes (tTup (tCons (tVar 8) (tCons (tDGet (tOp (rIxL d.K) (tVar 1) (tC (.int 0))) (tVar 8)) tNil))) [8]) (gName 7))
  (tIfS (tAnd (tTest (tOp rEq (tVar 5) (tC (.int 2)))) (tNot (tB (tCall (sp_l_alike d) [] E0 (tCons (tMeth d.cLog "wrote" (sp_Log_wrote d) [] E0 (tVar 0) tNil) (tCons (tVar 7) tNil)))))) (tRet (tC (.bl false))) tNext))))))
  (tRet (tC (.bl true))))
abbrev N_law : List Str := ["_law_script", "_law_logs", "_law_tiers", "_law_boxes", "_law_held", "_law_cell", "_law_mixed_here", "_law_which", "_law_box", "_law_found", "_law_kept"]
def t_law (d : Ad) : TS :=
  (tSeq (tAsg (tLst (tCons (tMake d.cLog (sp_Log_init d) [] E0 tNil) (tCons (tMake d.cLog (sp_Log_init d) [] E0 tNil) tNil))) (gName 1))
  (tSeq (tAsg (tLst (tCons (tLst (tCons tDNewK tNil)) (tCons (tLst (tCons tDNewK tNil)) tNil))) (gName 2))
  (tSeq (tAsg (tOp (rIxL d.K) (tLst (tCons (tC (.int 3)) (tCons (tC (.int 16)) tNil))) (aMod (tCall (sp_l_cell_at d) [] E0 (tCons (tVar 0) (tCons (tC (.int 0)) tNil))) (tC (.int 2)))) (gName 3))
  (tSeq (tAsg (tLst tNil) (gName 4))
  (tSeq (tFor (iList d.K (tSl (rSlL d.K) (tVar 0) tNoPart (tPart (tC (.int 200))))) (gName 5) (tSeq (tAsg (tCall (sp_l_mixed d) [] E0 (tCons (tVar 5) tNil)) (gName 6))
  (tSeq (tAsg (aMod (tVar 6) (tC (.int 2))) (gName 7))
  (tSeq (tAsg (aDiv (tVar 6) (tC (.int 2))) (gName 6))
  (tSeq (tDrop (tCall (sp_l_done d) [] E0 (tCons (tOp (rIxL d.K) (tVar 1) (tVar 7)) (tCons (tOp (rIxL d.K) (tVar 2) (tVar 7)) (tCons (tVar 6) (tCons (tVar 5) (tCons (tVar 3) tNil)))))))
  (tSeq (tFor (iList d.K (tLst (tCons (aMod (aDiv (tVar 6) (tC (.int 8))) (tVar 3)) (tCons (aMod (aDiv (tVar 6) (tC (.int 128))) (tVar 3)) tNil)))) (gName 8) (tSeq (tIfS (tNot (tB (tCall (sp_l_stands d) [] E0 (tCons (tOp (rIxL d.K) (tVar 1) (tVar 7)) (tCons (tOp (rIxL d.K) (tVar 2) (tVar 7)) (tCons (tVar 8) (tCons (aMod (tVar 6) (tC (.int 3))) tNil))))))) (tRet (tC (.bl false))) tNext)
  (tIfS (tNot (tB (tCall (sp_l_stands d) [] E0 (tCons (tOp (rIxL d.K) (tVar 1) (aSub (tC (.int 1)) (tVar 7))) (tCons (tOp (rIxL d.K) (tVar 2) (aSub (tC (.int 1)) (tVar 7))) (tCons (tVar 8) (tCons (aMod (aDiv (tVar 6) (tC (.int 3))) (tC (.int 3))) tNil))))))) (tRet (tC (.bl false))) tNext)))
  (tSeq (tAsg (tMeth d.cLog "wrote" (sp_Log_wrote d) [] E0 (tOp (rIxL d.K) (tVar 1) (tVar 7)) tNil) (gName 9))
  (tSeq (tDrop (tBM d.K "list" rAppend (tVar 4) (tCons (tTup (tCons (tVar 9) (tCons (tCB (rListOf d.K) (tCons (tVar 9) tNil)) tNil))) tNil)))
  (tDrop (tBM d.K "list" rAppend (tMeth d.cLog "wrote" (sp_Log_wrote d) [] E0 (tOp (rIxL d.K) (tVar 1) (tVar 7)) tNil) (tCons (tTup (tCons (tC (.int 0)) (tCons (tC (.int 0)) tNil))) tNil)))))))))))
  (tSeq (tFor (iList d.K (tVar 4)) (gTup d.K 2 (gCons (gName 9) (gCons (gName 10) gNil))) (tIfS (tTest (tOp (rNeD d.K) (tVar 9) (tVar 10))) (tRet (tC (.bl false))) tNext))
  (tRet (tAndV (tOp (rEqD d.K) (tMeth d.cLog "saw" (sp_Log_saw d) [] E0 (tOp (rIxL d.K) (tVar 1) (tC (.int 0))) tNil) (tLst tNil)) (tOp (rEqD d.K) (tMeth d.cLog "saw" (sp_Log_saw d) [] E0 (tOp (rIxL d.K) (tVar 1) (tC (.int 1))) tNil) (tLst tNil))))))))))
local macro_rules | `(tactic| walk_at "callx") => `(tactic| fail)
section
variable {H H' : Hp} {tl : Addr} {ds : List Addr} {ts : List Dm} {F F' : List Addr} {x : Addr} {m : Dm}
theorem TiersAt.keep (T : TiersAt H tl ds ts) (k : ∀ x ∈ tl :: ds, H' x = H x) : TiersAt H' tl ds ts :=
  ⟨(k tl (by simp)).trans T.ht, T.hl, fun i x m h1 h2 => (k x (List.mem_cons_of_mem _ (List.mem_of_getElem? h1))).trans (T.hd i x m h1 h2), T.nd⟩
theorem TiersAt.some (T : TiersAt H tl ds ts) : ∀ x ∈ tl :: ds, ∃ o, H x = some o := by
  intro x hx
  rcases List.mem_cons.mp hx with rfl | hx
  · exact ⟨_, T.ht⟩
  · obtain ⟨i, hi⟩ := List.getElem?_of_mem hx
    have h1 : i < ds.length := (List.getElem?_eq_some_iff.mp hi).1
    rw [T.hl] at h1
    exact ⟨_, T.hd i x _ hi (List.getElem?_eq_getElem h1)⟩
theorem TiersAt.other (T : TiersAt H tl ds ts) (c : Chg F F' H H') (n : ∀ x ∈ tl :: ds, x ∉ F) : TiersAt H' tl ds ts :=
  T.keep fun x hx => by
    obtain ⟨o, h⟩ := T.some x hx
    rw [h, c.keep x o h (n x hx)]
theorem TiersAt.ex (T : TiersAt H tl ds ts) (e : Ex H H') : TiersAt H' tl ds ts :=
  T.keep fun x hx => by
    obtain ⟨o, h⟩ := T.some x hx
    rw [h, e x o h]
theorem TiersAt.parts (T : TiersAt H tl ds (ts ++ [m])) : ∃ ds0 x, ds = ds0 ++ [x] ∧ ds0.length = ts.length ∧ H x = Option.some (.dK (encM m)) ∧ x ∉ tl :: ds0 := by
  obtain ⟨ds0, x, rfl, hl⟩ := snoc_of T.hl
  refine ⟨ds0, x, rfl, hl, last_at hl T.hd, ?_⟩
  have := T.nd
  rw [← List.cons_append] at this
  exact fun hx => (List.nodup_append.mp this).2.2 x hx x (by simp) rfl
theorem TiersAt.put (T : TiersAt H tl (ds ++ [x]) (ts ++ [m])) (hl : ds.length = ts.length) (m' : Dm) (k : ∀ a ∈ tl :: ds, H' a = H a) (hx : H' x = Option.some (.dK (encM m'))) : TiersAt H' tl (ds ++ [x]) (ts ++ [m']) :=
  ⟨(k tl (by simp)).trans T.ht, by simp [hl], snoc_at hl (fun i y n h1 h2 => (k y (List.mem_cons_of_mem _ (List.mem_of_getElem? h1))).trans (init_at hl T.hd i y n h1 h2)) hx, T.nd⟩
theorem TiersAt.pop (T : TiersAt H tl (ds ++ [x]) (ts ++ [m])) (hl : ds.length = ts.length) : TiersAt (upd H tl (.lst (ds.map V.ref))) tl ds ts := by
  have nd := T.nd
  rw [← List.cons_append] at nd
  have nd1 := (List.nodup_append.mp nd).1
  refine ⟨upd_same, hl, fun i y n h1 h2 => ?_, nd1⟩
  have hy := List.mem_of_getElem? h1
  rw [upd_ne (by rintro rfl; exact (List.nodup_cons.mp nd1).1 hy)]
  exact init_at hl T.hd i y n h1 h2
theorem TiersAt.push (T : TiersAt H tl ds ts) (hx : H x = Option.some (.dK (encM m))) (n : x ∉ tl :: ds) : TiersAt (upd H tl (.lst ((ds ++ [x]).map V.ref))) tl (ds ++ [x]) (ts ++ [m]) := by
  have nd1 := T.nd
  have ne : ∀ y ∈ ds, y ≠ tl := fun y hy => by rintro rfl; exact (List.nodup_cons.mp nd1).1 hy
  refine ⟨upd_same, by simp [T.hl], snoc_at T.hl (fun i y n h1 h2 => ?_) ?_, ?_⟩
  · rw [upd_ne (ne y (List.mem_of_getElem? h1))]; exact T.hd i y _ h1 h2
  · rw [upd_ne (by rintro rfl; simp at n)]; exact hx
  · rw [← List.cons_append]
    exact List.nodup_append.mpr ⟨nd1, by simp, fun a ha b hb => by rw [List.mem_singleton.mp hb]; rintro rfl; exact n ha⟩
theorem ownM_take {b : Int} {i : Nat} (h : ts[i]? = Option.some m) : ownM (ts.take (i + 1)) b = match dget m b with | Option.some n => Option.some n | none => ownM (ts.take i) b := by
  unfold ownM
  rw [List.take_succ, h]
  simp only [Option.toList, List.reverse_append, List.reverse_cons, List.reverse_nil, List.nil_append, List.singleton_append, List.findSome?_cons]
  cases dget m b <;> rfl
end
section
variable {d : Ad} {vs : List V} {H : Hp} {Q : VK} {E : XK}
theorem w_dgetF {p : Addr} {o : Obj} {kvs : List (Key × V)} {k : Int} {v : V} {H : Hp} {Q : VK} (h : H p = some (.frz o (.dK kvs))) (e : valV kvs (.inl k) = some v) (q : Q v H) : rDGet (.ref p) (.int k) H Q := ⟨p, v, rfl, .inl ⟨kvs, .inl k, .inr ⟨o, h⟩, rfl, e.symm⟩, q⟩
theorem Chg.sub {F F' F'' : List Addr} {H H' : Hp} (c : Chg F F' H H') (h : ∀ a ∈ F'', a ∈ F') : Chg F F'' H H' := ⟨c.keep, fun a m => c.grow a (h a m)⟩
theorem dget_mem : ∀ {m : Dm} {i : Nat} {q : Int × Int}, (keysM m).Nodup → m[i]? = some q → dget m q.1 = some q.2
  | p :: r, 0, q, _, h => by
    cases h
    exact dget_pos rfl
  | p :: r, i + 1, q, nd, h => by
    have h' : r[i]? = some q := by simpa using h
    have hn : p.1 ≠ q.1 := by
      intro e
      exact (List.nodup_cons.mp nd).1 (List.mem_map.mpr ⟨q, List.mem_of_getElem? h', e.symm⟩)
    rw [dget_neg hn]
    exact dget_mem (List.nodup_cons.mp nd).2 h'
theorem pure_l_cell_at (h : sp_l_cell_at d vs H Q E) : t_l_cell_at d { nx := fun _ H' => Q .non H', rt := Q } (start N_l_cell_at vs) H := by
  obtain ⟨a, ns, i, rfl, hS, k⟩ := h
  show t_l_cell_at d _ [some (.ref a), some (.int i)] H
  unfold t_l_cell_at
  walk_at "go"
  rw [List.length_map]
  walk_at "dec"
  · rename_i hc
    walk_at "go"
    have hx : (ns.map V.int)[i]? = some (.int (ns.getD i 0)) := by
      rw [List.getElem?_map, List.getD_eq_getElem?_getD, List.getElem?_eq_getElem (by omega)]; rfl
    refine w_ixL hS (atI_nat hx) ?_
    exact k
  · rename_i hc
    walk_at "go"
    rw [List.getD_eq_getElem?_getD, List.getElem?_eq_none (by omega)] at k
    exact k
theorem pure_l_mixed (h : sp_l_mixed d vs H Q E) : t_l_mixed d { nx := fun _ H' => Q .non H', rt := Q } (start N_l_mixed vs) H := by
  obtain ⟨c, rfl, k⟩ := h
  show t_l_mixed d _ [some (.int c)] H
  unfold t_l_mixed
  walk_at "go"
  exact k
theorem pure_l_own (h : sp_l_own d vs H Q E) : t_l_own d { nx := fun _ H' => Q .non H', rt := Q } (start N_l_own vs) H := by
  obtain ⟨tl, b, ds, ts, rfl, T, k⟩ := h
  show t_l_own d _ [some (.ref tl), some (.int b), none, none] H
  unfold t_l_own
  walk_at "goN"
  refine f_list (SqL.of T.ht) (fun i σ H' => (∃ x, σ = [some (.ref tl), some (.int b), some (optV (ownM (ts.take i) b)), x]) ∧ H' = H) ⟨⟨_, rfl⟩, rfl⟩ (fun i σ H' _ q => by rw [q.2]; exact SqL.of T.ht) ?_ ?_
  · rintro i x σ H1 hi ⟨⟨x3, rfl⟩, rfl⟩
    rw [List.getElem?_map] at hi
    obtain ⟨y, hy, rfl⟩ := Option.map_eq_some_iff.mp hi
    have hj : i < ts.length := by
      have := (List.getElem?_eq_some_iff.mp hy).1
      have := T.hl
      omega
    have hm := T.hd i y _ hy (List.getElem?_eq_getElem hj)
    rw [ownM_take (List.getElem?_eq_getElem hj)]
    walk_at "goN"
    rw [valV_enc]
    cases e : dget ts[i] b with
    | some n =>
      refine w_tt rfl ?_
      walk_at "go"
      refine w_dgetI hm (by rw [valV_enc, e]; rfl) ?_
      exact ⟨⟨_, rfl⟩, rfl⟩
    | none =>
      refine w_ff rfl ?_
      exact ⟨⟨_, rfl⟩, rfl⟩
  · rintro σ H1 ⟨⟨x3, rfl⟩, rfl⟩
    rw [List.length_map, T.hl, List.take_of_length_le (Nat.le_refl _)]
    walk_at "go"
    exact k
theorem ts_last {ts : List Dm} (h : 1 ≤ ts.length) : ∃ ts0 m, ts = ts0 ++ [m] := by
  have h2 : ts ≠ [] := by rintro rfl; simp at h
  exact ⟨ts.dropLast, ts.getLast h2, (List.dropLast_concat_getLast h2).symm⟩
theorem ts_last2 {ts : List Dm} (h : 1 < ts.length) : ∃ ts0 m top, ts = ts0 ++ [m] ++ [top] := by
  obtain ⟨t1, top, rfl⟩ := ts_last (ts := ts) (by omega)
  obtain ⟨t0, m, rfl⟩ := ts_last (ts := t1) (by simp at h; omega)
  exact ⟨t0, m, top, rfl⟩
theorem pure_l_done (T : TLog d) (h : sp_l_done d vs H Q E) : t_l_done d { nx := fun _ H' => Q .non H', rt := Q } (start N_l_done vs) H := by
  obtain ⟨x, tl, mx, c, bv, ds, ts, rfl, W, hbv, k⟩ := h
  obtain ⟨cl, n1, n2⟩ := T
  show t_l_done d _ [some (.ref x.p), some (.ref tl), some (.int mx), some (.int c), some (.int bv), none, none, none, none, none] H
  unfold t_l_done
  have hp := W.L.hp
  have ht := W.T.ht
  walk_at "goN"
  have hb : 0 ≤ mx / 8 % bv ∧ mx / 8 % bv < 16 := by
    have h1 := Int.emod_nonneg (mx / 8) (show bv ≠ 0 by omega)
    have h2 := Int.emod_lt_of_pos (mx / 8) hbv.1
    omega
  generalize mx / 8 % bv = bx8 at hb ⊢
  walk_at "dec"
  · walk_at "goN"
    obtain ⟨v9, hv9, n9, rfl⟩ := menu_item (xs := [.int 0, .int (mx / 1000 % 5), .int (c * 982451653 % 2 ^ Int.toNat 64), .int (2 ^ Int.toNat 64 - 1)]) (i := mx / 200 % 4) (P := fun v => ∃ b : Int, v = .int b) (by omega) (by show _ < (4 : Int); omega) (by
      simp only [List.mem_cons, List.not_mem_nil, or_false, forall_eq_or_imp, forall_eq]
      exact ⟨⟨_, rfl⟩, ⟨_, rfl⟩, ⟨_, rfl⟩, ⟨_, rfl⟩⟩)
    rename_i pm hpm H1 e1 f1
    refine w_ixL (SqL.of f1) hv9 ?_
    have L1 := W.L.ex e1
    have T1 := W.T.ex e1
    have hp1 := L1.hp
    obtain ⟨t0, m, rfl⟩ := ts_last W.ok.t1
    have km := W.ok.tk m (by simp)
    walk_at "goN"
    refine ⟨x, bx8, n9, t0, m, [], rfl, L1, by have := km.len; omega, fun H2 L2 c2 => ?_⟩
    have T2 := T1.other c2 (fun y hy hx => W.dj y hx hy)
    obtain ⟨ds0, y, rfl, hl, hy, yn⟩ := T2.parts
    have ht2 := T2.ht
    walk_at "goN"
    refine w_ixL (SqL.of ht2) (by rw [List.map_append]; exact atI_last _ _) ?_
    walk_at "goN"
    refine w_dputI hy (by rw [encM_len, sizeLine_eq]; have := km.len; omega) ?_
    rw [putK_enc]
    have yx : y ∉ x.fp := fun hm => W.dj y hm (by simp)
    refine k x (ds0 ++ [y]) (t0 ++ [dput m bx8 n9]) _ rfl ⟨L2.keep fun z hz => upd_ne (by rintro rfl; exact yx hz), T2.put hl _ (fun z hz => upd_ne (by rintro rfl; exact yn hz)) upd_same, ⟨by simp, by have := W.ok.t9; simpa using this, fun z hz => ?_⟩, W.dj⟩ ?_
    · rcases List.mem_append.mp hz with hz | hz
      · exact W.ok.tk z (by simp [hz])
      · rw [List.mem_singleton.mp hz]; exact km.put n9 hb
    · exact ((Chg.of_ex e1).trans (c2.frame _)).trans (Chg.wr (by simp))
  · walk_at "goN"
    walk_at "dec"
    · walk_at "goN"
      rw [List.length_map, W.T.hl]
      walk_at "dec"
      · rename_i h9
        walk_at "goN"
        refine ⟨x, ts, [], rfl, W.L, by omega, fun x' H1 L1 ep c1 => ?_⟩
        have T1 := W.T.other c1 (fun y hy hx => W.dj y hx hy)
        have ht1 := T1.ht
        walk_at "goN"
        rename_i q hq H2 e2 f2
        have qn : q ∉ tl :: ds := fun hm => by
          obtain ⟨o, h⟩ := T1.some q hm
          rw [hq] at h; cases h
        have qx : q ∉ x'.fp := fun hm => by
          obtain ⟨o, h⟩ := L1.some q hm
          rw [hq] at h; cases h
        have T2 := T1.ex e2
        refine w_app T2.ht (by rw [List.length_map, T2.hl, sizeLine_eq]; omega) ?_
        have dj1 : ∀ a ∈ x'.fp, a ∉ tl :: ds := fun a ha hm => by
          rcases c1.grow a ha with h | h
          · exact W.dj a h hm
          · obtain ⟨o, h'⟩ := W.T.some a hm
            rw [h] at h'; cases h'
        rw [show ds.map V.ref ++ [V.ref q] = (ds ++ [q]).map V.ref by simp]
        have hqm : H2 q = some (.dK (encM [])) := f2
        refine k x' (ds ++ [q]) (ts ++ [[]]) _ ep ⟨(L1.ex e2).keep fun z hz => upd_ne (by rintro rfl; exact dj1 z hz (by simp)), T2.push hqm qn, ⟨by simp, by simp; omega, fun z hz => ?_⟩, fun a ha hm => ?_⟩ ?_
        · rcases List.mem_append.mp hz with hz | hz
          · exact W.ok.tk z hz
          · rw [List.mem_singleton.mp hz]; exact KeysOk.nil
        · rw [← List.cons_append] at hm
          rcases List.mem_append.mp hm with hm | hm
          · exact dj1 a ha hm
          · rw [List.mem_singleton.mp hm] at ha; exact qx ha
        · refine (c1.frame (tl :: ds)).trans ?_
          refine Chg.trans (F1 := x'.fp ++ (tl :: (ds ++ [q]))) ⟨fun a o h _ => e2 a o h, fun a m => ?_⟩ (Chg.wr (by simp))
          rcases List.mem_append.mp m with m | m
          · exact .inl (List.mem_append_left _ m)
          · rw [← List.cons_append] at m
            rcases List.mem_append.mp m with m | m
            · exact .inl (List.mem_append_right _ m)
            · rw [List.mem_singleton.mp m]; exact .inr hq
      · walk_at "goN"
        exact k x ds ts H rfl W (Chg.refl _ _)
    · walk_at "goN"
      rw [List.length_map, W.T.hl]
      walk_at "dec"
      · rename_i h1
        obtain ⟨t0, m, top, rfl⟩ := ts_last2 (ts := ts) (by omega)
        obtain ⟨ds0, y, rfl, hl, hy, yn⟩ := W.T.parts
        have T1 := W.T.pop hl
        have yx : y ∉ x.fp := fun hm => W.dj y hm (by simp)
        have tx : tl ∉ x.fp := fun hm => W.dj tl hm (by simp)
        have yt : y ≠ tl := by rintro rfl; simp at yn
        have L1 : LogAt d (upd H tl (.lst (ds0.map V.ref))) x (t0 ++ [m] ++ [top]) [] := W.L.keep fun z hz => upd_ne (by rintro rfl; exact tx hz)
        have c01 : Chg (Tfp x tl (ds0 ++ [y])) (Tfp x tl (ds0 ++ [y])) H (upd H tl (.lst (ds0.map V.ref))) := Chg.wr (by simp)
        have hy1 : upd H tl (.lst (ds0.map V.ref)) y = some (.dK (encM top)) := by rw [upd_ne yt]; exact hy
        have dj0 : ∀ a ∈ x.fp, a ∉ tl :: ds0 := fun a ha hm => W.dj a ha (by rw [← List.cons_append]; exact List.mem_append_left _ hm)
        walk_at "goN"
        refine w_pop (by rw [ht, List.map_append]; rfl) ?_
        generalize upd H tl (.lst (ds0.map V.ref)) = H1 at T1 L1 c01 hy1 ⊢
        have hp1 := L1.hp
        walk_at "goN"
        have ok1 : OkT (t0 ++ [m]) := ⟨by simp, by have := W.ok.t9; simp at this ⊢; omega, fun z hz => W.ok.tk z (List.mem_append_left _ hz)⟩
        walk_at "dec"
        · walk_at "goN"
          have km := (ok1.tk m (by simp))
          have kt := (W.ok.tk top (by simp))
          refine ⟨x, t0, m, top, [], rfl, L1, by have := km.len; have := kt.len; omega, fun x' H2 L2 ep c2 => ?_⟩
          have T2 := T1.other c2 (fun z hz hx => dj0 z hx hz)
          have hy2 := c2.keep _ _ hy1 yx
          have dj2 : ∀ a ∈ x'.fp, a ∉ tl :: (ds0 ++ [y]) := fun a ha hm => by
            rcases c2.grow a ha with h | h
            · exact W.dj a h hm
            · rw [← List.cons_append] at hm
              rcases List.mem_append.mp hm with hm | hm
              · obtain ⟨o, h'⟩ := T1.some a hm
                rw [h] at h'; cases h'
              · rw [List.mem_singleton.mp hm, hy1] at h; cases h
          obtain ⟨ds1, z, rfl, hl1, hz, zn⟩ := T2.parts
          have yz : y ≠ z := by rintro rfl; simp at yn
          have zt : z ≠ tl := by rintro rfl; simp at zn
          walk_at "goN"
          refine w_lock ⟨y, .dK (encM top), hy2, trivial, fun od => ?_⟩
          have ht2 := T2.ht
          generalize hK0 : upd H2 y (.frz od (.dK (encM top))) = K0
          have k0y : K0 y = some (.frz od (.dK (encM top))) := by rw [← hK0, upd_same]
          have k0t : K0 tl = some (.lst ((ds1 ++ [z]).map V.ref)) := by rw [← hK0, upd_ne (Ne.symm yt)]; exact ht2
          have k0z : K0 z = some (.dK (encM m)) := by rw [← hK0, upd_ne (Ne.symm yz)]; exact hz
          walk_at "goN"
          refine w_keys1 k0y ?_
          refine for_it (walk_keys (d := y) (o := od) (kvs := encM top)) (fun i σ H' => (∃ a, σ = [some (.ref x.p), some (.ref tl), some (.int mx), some (.int c), some (.int bv), some (.int (mx % 8)), some (.int bx8), none, some (.ref y), a]) ∧ H' z = some (.dK (encM (putAll m (top.take i)))) ∧ ∀ a o, K0 a = some o → a ≠ z → H' a = some o) ⟨⟨_, rfl⟩, k0z, fun a o h _ => h⟩ (fun i σ H' _ q => q.2.2 _ _ k0y yz) ?_ ?_
          · rintro i v σ H3 H4 hi ⟨⟨a, rfl⟩, hz3, hk3⟩ ⟨rfl, kk, vv, hkv, rfl⟩
            rw [encM_len] at hi
            obtain ⟨q, hq⟩ : ∃ q, top[i]? = some q := ⟨_, List.getElem?_eq_getElem hi⟩
            have hq1 : (encM top)[i]? = some (.inl q.1, .int q.2) := by unfold encM; rw [List.getElem?_map, hq]; rfl
            rw [hq1] at hkv
            cases hkv
            have g2 := hk3 tl _ k0t (Ne.symm zt)
            have gy := hk3 y _ k0y yz
            show gName 9 (.int q.1) [some (.ref x.p), some (.ref tl), some (.int mx), some (.int c), some (.int bv), some (.int (mx % 8)), some (.int bx8), none, some (.ref y), a] H4 _
            have hqd : dget top q.1 = some q.2 := dget_mem kt.nd hq
            have hb4 : (encM (putAll m (top.take i))).length < sizeLine := by
              rw [encM_len]
              have h1 := putAll_len (top.take i) m
              have h2 : (top.take i).length ≤ top.length := by rw [List.length_take]; exact Nat.min_le_right _ _
              have := km.len
              have := kt.len
              exact small1000 (by omega)
            walk_at "goN"
            refine w_dgetF gy (by rw [valV_enc, hqd]; rfl) ?_
            walk_at "goN"
            refine w_ixL (SqL.of g2) (by rw [List.map_append]; exact atI_last _ _) ?_
            walk_at "goN"
            refine w_dputI hz3 hb4 ?_
            rw [putK_enc]
            refine ⟨⟨_, rfl⟩, by rw [upd_same, putAll_take hq], fun c' o h n => ?_⟩
            rw [upd_ne n]
            exact hk3 c' o h n
          · rintro σ H3 ⟨⟨a, rfl⟩, hz3, hk3⟩
            rw [encM_len, List.take_of_length_le (Nat.le_refl _)] at hz3
            refine ⟨hk3 y _ k0y yz, ?_⟩
            have back : ∀ c' o, H2 c' = some o → c' ≠ z → (upd H3 y (.dK (encM top))) c' = some o := fun c' o h n => by
              by_cases e : c' = y
              · subst e; rw [upd_same, ← hy2, h]
              · rw [upd_ne e]
                refine hk3 c' o ?_ n
                rw [← hK0, upd_ne e]; exact h
            have backT : ∀ a ∈ tl :: ds1, (upd H3 y (.dK (encM top))) a = H2 a := fun a ha => by
              obtain ⟨o, h⟩ := T2.some a (by rw [← List.cons_append]; exact List.mem_append_left _ ha)
              rw [h, back a o h (by rintro rfl; exact zn ha)]
            refine k x' (ds1 ++ [z]) (t0 ++ [putAll m top]) _ ep ⟨L2.keep fun a ha => ?_, T2.put hl1 _ backT (by rw [upd_ne (Ne.symm yz)]; exact hz3), ⟨by simp, by have := ok1.t9; simpa using this, fun w hw => ?_⟩, fun a ha hm => dj2 a ha (by rw [← List.cons_append]; exact List.mem_append_left _ hm)⟩ ?_
            · obtain ⟨o, h⟩ := L2.some a ha
              rw [h, back a o h (by rintro rfl; exact dj2 _ ha (by simp))]
            · rcases List.mem_append.mp hw with hw | hw
              · exact ok1.tk w (List.mem_append_left _ hw)
              · rw [List.mem_singleton.mp hw]; exact KeysOk.all top m km kt
            · refine Chg.sub (F' := Tfp x' tl (ds1 ++ [z] ++ [y])) ((c01.trans (c2.frame _)).trans ⟨fun a o h n => back a o h ?_, fun a m => .inl m⟩) fun a ha => ?_
              · rintro rfl; exact n (by simp)
              · rcases List.mem_append.mp ha with h | h
                · exact List.mem_append_left _ h
                · exact List.mem_append_right _ (by rw [← List.cons_append]; exact List.mem_append_left _ h)
        · walk_at "goN"
          refine ⟨x, t0 ++ [m], top, [], rfl, L1, fun x' H2 L2 ep c2 => ?_⟩
          have T2 := T1.other c2 (fun z hz hx => dj0 z hx hz)
          refine k x' ds0 (t0 ++ [m]) _ ep ⟨L2, T2, ok1, fun a ha hm => ?_⟩ ?_
          · rcases c2.grow a ha with h | h
            · exact dj0 a h hm
            · obtain ⟨o, h'⟩ := T1.some a hm
              rw [h] at h'; cases h'
          · refine Chg.sub (F' := Tfp x' tl (ds0 ++ [y])) (c01.trans (c2.frame _)) fun a ha => ?_
            rcases List.mem_append.mp ha with h | h
            · exact List.mem_append_left _ h
            · exact List.mem_append_right _ (by rw [← List.cons_append]; exact List.mem_append_left _ h)
      · walk_at "goN"
        exact k x ds ts H rfl W (Chg.refl _ _)
def lcDue (d : Ad) : TS := tAsg (tLc (iList d.K (tCB rSortedD (tCons (tOp (rIxL d.K) (tVar 1) (tC (.int 0))) tNil))) (gName 8) tYes (tTup (tCons (tVar 8) (tCons (tDGet (tOp (rIxL d.K) (tVar 1) (tC (.int 0))) (tVar 8)) tNil))) [8]) (gName 7)
theorem due_lc {D : Ends} {tl : Addr} {ds : List Addr} {ts : List Dm} {m : Dm} {x0 x2 x3 x4 x5 x6 x7 x8 : Option V} (T : TiersAt H tl ds (m :: ts)) (hm : m.length < 64)
    (k : ∀ q H' xs, H q = none → Ex H H' → H' q = some (.lst xs) → Pairs H H' xs (bx m) → D.nx [x0, some (.ref tl), x2, x3, x4, x5, x6, some (.ref q), x8] H') :
    lcDue d D [x0, some (.ref tl), x2, x3, x4, x5, x6, x7, x8] H := by
  obtain ⟨ht, hl, hd, nd⟩ := T
  cases ds with
  | nil => simp at hl
  | cons p ds =>
  have hm' : H p = some (.dK (encM m)) := hd 0 p m rfl rfl
  unfold lcDue
  walk_at "go"
  refine w_ixL (SqL.of ht) (atI_nat (xs := (p :: ds).map V.ref) (j := 0) (v := .ref p) rfl) ?_
  walk_at "go"
  refine w_sortD hm' (encM_keys m) (by unfold keysM; rw [List.length_map]; exact hm) fun ys l hp hs hfree => ?_
  have ey := sortK_is hp hs
  subst ey
  generalize hU : upd H l _ = H1
  have e1 := new_ex hfree hU
  have f1 := new_at hU
  clear hU
  walk_at "go"
  refine ⟨⟨_, SqL.of f1⟩, ?_⟩
  have kl : (sortK m).length = m.length := by rw [(sortK_perm m).length_eq]; exact List.length_map _
  refine lc_rel (walk_list (xs := (sortK m).map V.int)) (by rw [List.length_map]; omega) (fun i v S => ∃ t q, v = .ref t ∧ (bx m)[i]? = some q ∧ H t = none ∧ S t = some (.tup [.int q.1, .int q.2])) ?_ (fun H' e => SqL.of (e _ _ f1)) (fun i H x H' _ y => y.1 ▸ Evl.Ex.refl _) ?_ ?_ (mono_gn 8)
  · rintro i v S S' e ⟨t, q, h1, h2, h3, h4⟩
    exact ⟨t, q, h1, h2, h3, e _ _ h4⟩
  · rintro D i x H2 H3 hD hi e2 hDs ⟨rfl, hx⟩ R hR
    obtain ⟨b, rfl, hb⟩ := int_item hx
    obtain ⟨n, hn⟩ := dget_in (m := m) (b := b) ((sortK_perm m).mem_iff.mp (List.mem_of_getElem? hb))
    have hp2 : H3 p = some (.dK (encM m)) := (e1.trans (e2.trans del_ex)) _ _ hm'
    have ht3 := (e1.trans (e2.trans del_ex)) _ _ ht
    refine ⟨rfl, ?_⟩
    walk_at "go"
    refine w_ixL (SqL.of ht3) (atI_nat (xs := (p :: ds).map V.ref) (j := 0) (v := .ref p) rfl) ?_
    walk_at "go"
    refine w_dgetI hp2 (by rw [valV_enc, hn]; rfl) ?_
    walk_at "go"
    intro t ht
    refine hR (.ref t) _ (Evl.Ex.new ht) ⟨t, (b, n), rfl, ?_, ex_free (e1.trans (e2.trans del_ex)) ht, ?_⟩
    · unfold bx
      rw [List.getElem?_map, hb]
      show some (b, (dget m b).getD 0) = _
      rw [hn]; rfl
    · obtain ⟨o, hDs⟩ := hDs
      rw [del_ne (Ne.symm (ne_of_none hDs ht)), upd_same]
  · rintro D H2 xs hD e2 h1 h2 h3
    refine k D H2 xs (ex_free e1 hD) (e1.trans e2) h1 ⟨by rw [h2, bx_len, List.length_map, kl], fun i v q hv hq => ?_⟩
    obtain ⟨t, q', g1, g2, g3, g4⟩ := h3 i v hv
    rw [hq] at g2; cases g2
    exact ⟨t, g1, g3, del_ex _ _ g4⟩
def ddP (q : Int × Int) : PyData := .tuple [.int q.1, .int q.2]
theorem dp_pairs {K : PySem.W.Frag} {S : Hp} : ∀ {xs : List V} {ps : List (Int × Int)}, xs.length = ps.length → (∀ (i : Nat) (v : V) (q : Int × Int), xs[i]? = some v → ps[i]? = some q → ∃ t, v = .ref t ∧ S t = some (.tup [.int q.1, .int q.2])) → DpAll K S xs (ps.map ddP)
  | [], [], _, _ => .nil
  | [], _ :: _, h, _ => by cases h
  | _ :: _, [], h, _ => by cases h
  | x :: xs, q :: ps, h, k => by
    obtain ⟨t, rfl, ht⟩ := k 0 x q rfl rfl
    exact .cons (.tup (SqT.of ht) (.cons (.int _) (.cons (.int _) .nil))) (dp_pairs (by simpa using h) fun i v q h1 h2 => k (i + 1) v q (by simpa using h1) (by simpa using h2))
theorem nice_pairs {ps : List (Int × Int)} (h : ps.length ≤ 100000) : nice 8 (.list (ps.map ddP)) = true := by
  unfold nice
  rw [List.length_map, decide_eq_true h, List.all_map]
  refine List.all_eq_true.mpr fun q _ => ?_
  rfl
theorem clAll : ∀ ps : List (Int × Int), PyData.canLayAll0 (ps.map ddP) = true
  | [] => by simp [PyData.canLayAll0]
  | _ :: r => by simp [PyData.canLayAll0, PyData.canLay0, ddP, clAll r]
theorem dpAllLe : ∀ ps : List (Int × Int), PyData.depthAll (ps.map ddP) ≤ 1
  | [] => by simp [PyData.depthAll]
  | _ :: r => by simp [PyData.depthAll, PyData.depth, ddP, dpAllLe r]
theorem shp_pairs (ps : List (Int × Int)) : SeqAt.shaped (.list (ps.map ddP)) = true := by
  have h := dpAllLe ps
  simp only [SeqAt.shaped, PyData.canLay0, PyData.depth, clAll, Bool.true_and]
  exact decide_eq_true (by omega)
theorem Two.ex {H' : Hp} {x : LA} {tl : Addr} {ds : List Addr} {ts : List Dm} (W : Two d H x tl ds ts) (e : Ex H H') : Two d H' x tl ds ts := ⟨W.L.ex e, W.T.ex e, W.ok, W.dj⟩
theorem pure_l_stands (T : TLog d) (h : sp_l_stands d vs H Q E) : t_l_stands d { nx := fun _ H' => Q .non H', rt := Q } (start N_l_stands vs) H := by
  obtain ⟨x, tl, b, t, ds, ts, rfl, W, k⟩ := h
  obtain ⟨cl, n1, n2⟩ := T
  show t_l_stands d _ [some (.ref x.p), some (.ref tl), some (.int b), some (.int t), none, none, none, none, none] H
  unfold t_l_stands
  rw [show tAsg (tLc (iList d.K (tCB rSortedD (tCons (tOp (rIxL d.K) (tVar 1) (tC (.int 0))) tNil))) (gName 8) tYes (tTup (tCons (tVar 8) (tCons (tDGet (tOp (rIxL d.K) (tVar 1) (tC (.int 0))) (tVar 8)) tNil))) [8]) (gName 7) = lcDue d from rfl]
  walk_at "go"
  refine ⟨by decide, by decide, ?_⟩
  obtain ⟨m, tr, rfl⟩ : ∃ m tr, ts = m :: tr := by
    cases ts with
    | nil => exact absurd W.ok.t1 (by decide)
    | cons m tr => exact ⟨m, tr, rfl⟩
  have km := (W.ok.tk m (by simp)).len
  refine for_it (walk_range (lo := 0) (n := 3)) (fun i σ H' => (∃ x4 x5 x6 x7 x8, σ = [some (.ref x.p), some (.ref tl), some (.int b), some (.int t), x4, x5, x6, x7, x8]) ∧ Ex H H') ⟨⟨_, _, _, _, _, rfl⟩, Evl.Ex.refl _⟩ (fun _ _ _ _ _ => trivial) ?_ ?_
  · rintro i v σ H1 H2 hi ⟨⟨x4, x5, x6, x7, x8, rfl⟩, e1⟩ ⟨rfl, hv⟩
    have hv : v = .int (i : Nat) := hv.trans (congrArg V.int (Int.zero_add _))
    subst hv
    have W1 := W.ex e1
    have hp1 := W1.L.hp
    have ht1 := W1.T.ht
    walk_at "go"
    have hw : ((i : Int) + t) % 3 = 0 ∨ ((i : Int) + t) % 3 = 1 ∨ ((i : Int) + t) % 3 = 2 := by omega
    rcases hw with hw | hw | hw
    · rw [hw]
      walk_at "go"
      refine ⟨x, b, _, [], rfl, W1.L, ?_⟩
      walk_at "go"
      refine ⟨tl, b, ds, _, rfl, W1.T, ?_⟩
      walk_at "go"
      cases ownM (m :: tr) b with
      | none =>
        simp only [optV]
        walk_at "go"
        refine due_lc W1.T (by omega) fun q H2 xs hq e2 f2 hx => ?_
        walk_at "go"
        exact ⟨⟨_, _, _, _, _, rfl⟩, e1.trans e2⟩
      | some n =>
        simp only [optV]
        walk_at "go"
        refine c_alike (n := 8) (.int n) (.int n) rfl ?_
        walk_at "go"
        refine due_lc W1.T (by omega) fun q H2 xs hq e2 f2 hx => ?_
        walk_at "go"
        exact ⟨⟨_, _, _, _, _, rfl⟩, e1.trans e2⟩
    · rw [hw]
      walk_at "go"
      refine ⟨x, _, [], rfl, W1.L, ?_⟩
      walk_at "go"
      rw [List.length_map, W.T.hl]
      refine c_alike (n := 8) (.int _) (.int _) rfl ?_
      walk_at "go"
      refine due_lc W1.T (by omega) fun q H2 xs hq e2 f2 hx => ?_
      walk_at "go"
      exact ⟨⟨_, _, _, _, _, rfl⟩, e1.trans e2⟩
    · rw [hw]
      walk_at "go"
      refine due_lc W1.T (by omega) fun q H2 xs hq e2 f2 hx => ?_
      have hp2 := (W1.ex e2).L.hp
      walk_at "go"
      refine ⟨x, m, tr, [], rfl, (W1.ex e2).L, by omega, fun r H3 ys hr e3 f3 hy => ?_⟩
      have hn : nice 8 (.list ((bx m).map ddP)) = true := nice_pairs (by rw [bx_len]; omega)
      have d1 : DpAll d.K H3 xs ((bx m).map ddP) := dp_pairs hx.1 fun i v q' hv hq' => by
        obtain ⟨t, g1, g2, g3⟩ := hx.2 i v q' hv hq'
        exact ⟨t, g1, e3 _ _ g3⟩
      have d2 : DpAll d.K H3 ys ((bx m).map ddP) := dp_pairs hy.1 fun i v q' hv hq' => by
        obtain ⟨t, g1, g2, g3⟩ := hy.2 i v q' hv hq'
        exact ⟨t, g1, g3⟩
      walk_at "go"
      refine c_alike (.lst (SqL.of f3) d2) (.lst (SqL.of (e3 _ _ f2)) d1) hn ?_
      walk_at "go"
      exact ⟨⟨_, _, _, _, _, rfl⟩, e1.trans (e2.trans e3)⟩
  · rintro σ H1 ⟨⟨x4, x5, x6, x7, x8, rfl⟩, e1⟩
    walk_at "go"
    exact k _ e1
def Held (K : PySem.W.Frag) (S : Hp) (v : V) : Prop := ∃ t f u dd, v = .ref t ∧ S t = some (.tup [.ref f, .ref u]) ∧ Dp K S (.ref f) dd ∧ Dp K S (.ref u) dd ∧ SeqAt.shaped dd = true
theorem Held.mono {K : PySem.W.Frag} {S S' : Hp} {v : V} (e : Ex S S') (h : Held K S v) : Held K S' v := by
  obtain ⟨t, f, u, dd, h1, h2, h3, h4, h5⟩ := h
  exact ⟨t, f, u, dd, h1, e _ _ h2, dp_mono e _ _ h3, dp_mono e _ _ h4, h5⟩
theorem hide_congr {M M' : List Addr} {H : Hp} (h : ∀ a, a ∈ M ↔ a ∈ M') : hide M H = hide M' H := by
  funext a
  unfold hide
  by_cases q : a ∈ M
  · rw [if_pos q, if_pos ((h a).mp q)]
  · rw [if_neg q, if_neg fun z => q ((h a).mpr z)]
abbrev M14 (x : LA) (tx : Addr) (dx : List Addr) (y : LA) (ty : Addr) (dy : List Addr) (phe : Addr) : List Addr := Tfp x tx dx ++ (Tfp y ty dy ++ [phe])
structure S14 (d : Ad) (Z H : Hp) (x : LA) (tx : Addr) (dx : List Addr) (sx : List Dm) (y : LA) (ty : Addr) (dy : List Addr) (sy : List Dm) (phe : Addr) (hs : List V) : Prop where
  W : Two d H x tx dx sx
  U : Two d H y ty dy sy
  he : H phe = some (.lst hs)
  dj : ∀ a ∈ Tfp x tx dx, a ∉ Tfp y ty dy
  nx : phe ∉ Tfp x tx dx
  ny : phe ∉ Tfp y ty dy
  z : Ex Z (hide (M14 x tx dx y ty dy phe) H)
  hd : ∀ v ∈ hs, Held d.K (hide (M14 x tx dx y ty dy phe) H) v
section
variable {Z H' : Hp} {x x' y : LA} {tx ty phe : Addr} {dx dx' dy : List Addr} {sx sx' sy : List Dm} {hs : List V} {v : V}
theorem S14.swap (I : S14 d Z H x tx dx sx y ty dy sy phe hs) : S14 d Z H y ty dy sy x tx dx sx phe hs := by
  have e : hide (M14 x tx dx y ty dy phe) H = hide (M14 y ty dy x tx dx phe) H := hide_congr fun a => by
    simp only [M14, List.mem_append]
    constructor <;> rintro ((h | h) | (h | h) | h) <;> simp [h]
  exact ⟨I.U, I.W, I.he, fun a h1 h2 => I.dj a h2 h1, I.ny, I.nx, e ▸ I.z, e ▸ I.hd⟩
theorem Two.some (W : Two d H x tx dx sx) : ∀ a ∈ Tfp x tx dx, ∃ o, H a = some o := fun a ha => by
  rcases List.mem_append.mp ha with h | h
  · exact W.L.some a h
  · exact W.T.some a h
theorem Two.other {F F' : List Addr} (W : Two d H x tx dx sx) (c : Chg F F' H H') (n : ∀ a ∈ Tfp x tx dx, a ∉ F) : Two d H' x tx dx sx :=
  ⟨W.L.other c fun a h => n a (List.mem_append_left _ h), W.T.other c fun a h => n a (List.mem_append_right _ h), W.ok, W.dj⟩
theorem S14.op (I : S14 d Z H x tx dx sx y ty dy sy phe hs) (W : Two d H' x' tx dx' sx') (c : Chg (Tfp x tx dx) (Tfp x' tx dx') H H') : S14 d Z H' x' tx dx' sx' y ty dy sy phe hs := by
  have e := hide_chg (c.frame (Tfp y ty dy ++ [phe]))
  refine ⟨W, I.U.other c fun a h1 h2 => I.dj a h2 h1, c.keep _ _ I.he I.nx, fun a h1 h2 => ?_, fun h => ?_, I.ny, I.z.trans e, fun v hv => (I.hd v hv).mono e⟩
  · rcases c.grow a h1 with h | h
    · exact I.dj a h h2
    · obtain ⟨o, h'⟩ := I.U.some a h2
      rw [h] at h'; cases h'
  · rcases c.grow _ h with h | h
    · exact I.nx h
    · rw [I.he] at h; cases h
theorem S14.ex (I : S14 d Z H x tx dx sx y ty dy sy phe hs) (e : Ex H H') : S14 d Z H' x tx dx sx y ty dy sy phe hs :=
  I.op (I.W.ex e) (Chg.of_ex e)
theorem S14.hold (I : S14 d Z H x tx dx sx y ty dy sy phe hs) (h : Held d.K (hide (M14 x tx dx y ty dy phe) H) v) : S14 d Z (upd H phe (.lst (hs ++ [v]))) x tx dx sx y ty dy sy phe (hs ++ [v]) := by
  have c : Chg [phe] [phe] H (upd H phe (.lst (hs ++ [v]))) := Chg.wr (by simp)
  have e := hide_chg (Chg.wr (F := M14 x tx dx y ty dy phe) (a := phe) (H := H) (o := .lst (hs ++ [v])) (by simp))
  refine ⟨I.W.other c fun a h1 h2 => ?_, I.U.other c fun a h1 h2 => ?_, upd_same, I.dj, I.nx, I.ny, I.z.trans e, fun w hw => ?_⟩
  · rw [List.mem_singleton.mp h2] at h1; exact I.nx h1
  · rw [List.mem_singleton.mp h2] at h1; exact I.ny h1
  · rcases List.mem_append.mp hw with hw | hw
    · exact (I.hd w hw).mono e
    · rw [List.mem_singleton.mp hw]; exact h.mono e
theorem S14.free (I : S14 d Z H x tx dx sx y ty dy sy phe hs) {q : Addr} (h : H q = none) : q ∉ M14 x tx dx y ty dy phe := fun m => by
  rcases List.mem_append.mp m with m | m
  · obtain ⟨o, z⟩ := I.W.some q m
    rw [h] at z; cases z
  · rcases List.mem_append.mp m with m | m
    · obtain ⟨o, z⟩ := I.U.some q m
      rw [h] at z; cases z
    · rw [List.mem_singleton.mp m, I.he] at h; cases h
end
theorem ix20 {a b : V} : atI [a, b] 0 = some a := rfl
theorem ix21 {a b : V} : atI [a, b] 1 = some b := rfl
theorem pick14 {Z H1 : Hp} {p0 p1 : Addr} {y0 y1 : LA} {T0 T1 phe : Addr} {s0 s1 : List Addr} {w0 w1 : List Dm} {hs : List V} (I : S14 d Z H1 y0 T0 s0 w0 y1 T1 s1 w1 phe hs) (ep0 : y0.p = p0) (ep1 : y1.p = p1) {w : Int} (hw : w = 0 ∨ w = 1) :
    ∃ (y : LA) (ty : Addr) (dy : List Addr) (sy : List Dm) (z : LA) (tz : Addr) (dz : List Addr) (sz : List Dm), S14 d Z H1 y ty dy sy z tz dz sz phe hs ∧ atI [V.ref p0, V.ref p1] w = some (.ref y.p) ∧ atI [V.ref p0, V.ref p1] (1 - w) = some (.ref z.p) ∧
        atI [V.ref T0, V.ref T1] w = some (.ref ty) ∧ atI [V.ref T0, V.ref T1] (1 - w) = some (.ref tz) ∧
        (∀ H'' y' dy' sy' hs', y'.p = y.p → S14 d Z H'' y' ty dy' sy' z tz dz sz phe hs' → ∃ y0 s0 w0 y1 s1 w1, y0.p = p0 ∧ y1.p = p1 ∧ S14 d Z H'' y0 T0 s0 w0 y1 T1 s1 w1 phe hs') := by
  subst ep0 ep1
  rcases hw with e | e
  · subst e
    rw [show (1 : Int) - 0 = 1 from rfl]
    exact ⟨y0, T0, s0, w0, y1, T1, s1, w1, I, ix20, ix21, ix20, ix21, fun H'' y' dy' sy' hs' e q => ⟨y', _, _, y1, _, _, e, rfl, q⟩⟩
  · subst e
    rw [show (1 : Int) - 1 = 0 from rfl]
    exact ⟨y1, T1, s1, w1, y0, T0, s0, w0, I.swap, ix21, ix20, ix21, ix20, fun H'' y' dy' sy' hs' e q => ⟨y0, _, _, y', _, _, rfl, e, q.swap⟩⟩
theorem pure_law (T : TLog d) (h : sp_law d vs H Q E) : t_law d { nx := fun _ H' => Q .non H', rt := Q } (start N_law vs) H := by
  obtain ⟨a, ns, rfl, hS, hlen, k⟩ := h
  obtain ⟨cl, n1, n2⟩ := T
  show t_law d _ [some (.ref a), none, none, none, none, none, none, none, none, none, none] H
  unfold t_law
  walk_at "goN"
  intro p dx hp hdx hne
  refine ⟨p, dx, rfl, upd_same, fun x0 H1 L1 ep c1 => ⟨rfl, ?_⟩⟩
  subst ep
  have c1 := made hp hdx c1
  have e01 : Ex H H1 := fun x o h => c1.keep x o h (by simp)
  walk_at "goN"
  intro p dx hp2 hdx2 hne2
  refine ⟨p, dx, rfl, upd_same, fun x1 H2 L2 ep c2 => ⟨rfl, ?_⟩⟩
  subst ep
  have c2 := made hp2 hdx2 c2
  have e12 : Ex H1 H2 := fun x o h => c2.keep x o h (by simp)
  walk_at "goN"
  rename_i Lg hLg G1 a1 b1 D0 hD0 G2 a2 b2 T0 hT0 G3 a3 b3 D1 hD1 G4 a4 b4 T1 hT1 G5 a5 b5 Ts hTs G6 a6 b6 Bx hBx G7 a7 b7
  have ee2 := a1.trans a2
  have ee3 := ee2.trans a3
  have ee4 := ee3.trans a4
  have ee5 := ee4.trans a5
  have ee6 := ee5.trans a6
  have ee7 := ee6.trans a7
  have hS7 := ex_sq ((e01.trans e12).trans ee7) hS
  refine ⟨a, ns, 0, rfl, hS7, ?_⟩
  walk_at "go"
  obtain ⟨v, hv, bv, rfl, hbv⟩ := menu_item (xs := [.int 3, .int 16]) (i := ns.getD 0 0 % 2) (P := fun v => ∃ b : Int, v = .int b ∧ 0 < b ∧ b ≤ 16) (by omega) (by show _ < (2 : Int); omega) (by
    simp only [List.mem_cons, List.not_mem_nil, or_false, forall_eq_or_imp, forall_eq]
    exact ⟨⟨_, rfl, by decide, by decide⟩, ⟨_, rfl, by decide, by decide⟩⟩)
  refine w_ixL (SqL.of b7) hv ?_
  walk_at "go"
  intro phe hphe
  generalize hU : upd G7 phe _ = G8
  have a8 := new_ex hphe hU
  have b8 := new_at hU
  clear hU
  have ee8 := ee7.trans a8
  have hS8 := ex_sq a8 hS7
  walk_at "go"
  intro l hl
  generalize hU : upd G8 l _ = G9
  have a9 := new_ex hl hU
  have b9 := new_at hU
  clear hU
  rw [show (200 : Int) = ((200 : Nat) : Int) from rfl, cutV_all _ _ (by simp; omega)] at b9
  have ee9 := ee8.trans a9
  have fr0 : ∀ q G, Ex H2 G → G q = none → q ∉ x0.fp := fun q G e h m => by
    obtain ⟨o, z⟩ := L1.some q m
    rw [e _ _ (e12 _ _ z)] at h; cases h
  have fr1 : ∀ q G, Ex H2 G → G q = none → q ∉ x1.fp := fun q G e h m => by
    obtain ⟨o, z⟩ := L2.some q m
    rw [e _ _ z] at h; cases h
  have t01 : ∀ z ∈ x0.fp, z ∉ x1.fp := fun z h1 h2 => by
    rcases c2.grow z h2 with h | h
    · cases h
    · obtain ⟨o, w⟩ := L1.some z h1
      rw [h] at w; cases w
  have W : Two d G9 x0 T0 [D0] [[]] := by
    refine ⟨(L1.ex e12).ex ee9, ⟨(((((a4.trans a5).trans a6).trans a7).trans a8).trans a9) _ _ b3, rfl, ?_, ?_⟩, ⟨by decide, by decide, fun m hm => by rw [List.mem_singleton.mp hm]; exact KeysOk.nil⟩, fun z hz hm => ?_⟩
    · rintro (_ | i) x m h1 h2
      · cases h1; cases h2
        exact (((((((a3.trans a4).trans a5).trans a6).trans a7).trans a8).trans a9)) _ _ b2
      · simp at h1
    · have : T0 ≠ D0 := Ne.symm (ne_of_none b2 hT0)
      simp [this]
    · simp only [List.mem_cons, List.not_mem_nil, or_false] at hm
      rcases hm with rfl | rfl
      · exact fr0 _ _ ee2 hT0 hz
      · exact fr0 _ _ a1 hD0 hz
  have U : Two d G9 x1 T1 [D1] [[]] := by
    refine ⟨L2.ex ee9, ⟨(((a6.trans a7).trans a8).trans a9) _ _ b5, rfl, ?_, ?_⟩, ⟨by decide, by decide, fun m hm => by rw [List.mem_singleton.mp hm]; exact KeysOk.nil⟩, fun z hz hm => ?_⟩
    · rintro (_ | i) x m h1 h2
      · cases h1; cases h2
        exact (((((a5.trans a6).trans a7).trans a8).trans a9)) _ _ b4
      · simp at h1
    · have : T1 ≠ D1 := Ne.symm (ne_of_none b4 hT1)
      simp [this]
    · simp only [List.mem_cons, List.not_mem_nil, or_false] at hm
      rcases hm with rfl | rfl
      · exact fr1 _ _ ee4 hT1 hz
      · exact fr1 _ _ ee3 hD1 hz
  have nT0T1 : T0 ≠ T1 := ne_of_none (a4 _ _ b3) hT1
  have nT0D1 : T0 ≠ D1 := ne_of_none b3 hD1
  have nD0T1 : D0 ≠ T1 := ne_of_none ((a3.trans a4) _ _ b2) hT1
  have nD0D1 : D0 ≠ D1 := ne_of_none (a3 _ _ b2) hD1
  have dj : ∀ z ∈ Tfp x0 T0 [D0], z ∉ Tfp x1 T1 [D1] := fun z h1 h2 => by
    simp only [List.mem_append, List.mem_cons, List.not_mem_nil, or_false] at h1 h2
    rcases h1 with h1 | rfl | rfl
    · rcases h2 with h2 | rfl | rfl
      · exact t01 z h1 h2
      · exact fr0 _ _ ee4 hT1 h1
      · exact fr0 _ _ ee3 hD1 h1
    · rcases h2 with h2 | h2 | h2
      · exact fr1 _ _ ee2 hT0 h2
      · exact nT0T1 h2
      · exact nT0D1 h2
    · rcases h2 with h2 | h2 | h2
      · exact fr1 _ _ a1 hD0 h2
      · exact nD0T1 h2
      · exact nD0D1 h2
  have some8 : ∀ z, (∃ o, G7 z = some o) → z ≠ phe := fun z ⟨o, h⟩ => ne_of_none h hphe
  have nx : phe ∉ Tfp x0 T0 [D0] := fun m => by
    simp only [List.mem_append, List.mem_cons, List.not_mem_nil, or_false] at m
    rcases m with m | rfl | rfl
    · exact fr0 _ _ ee7 hphe m
    · exact some8 _ ⟨_, (((a4.trans a5).trans a6).trans a7) _ _ b3⟩ rfl
    · exact some8 _ ⟨_, ((((a3.trans a4).trans a5).trans a6).trans a7) _ _ b2⟩ rfl
  have ny : phe ∉ Tfp x1 T1 [D1] := fun m => by
    simp only [List.mem_append, List.mem_cons, List.not_mem_nil, or_false] at m
    rcases m with m | rfl | rfl
    · exact fr1 _ _ ee7 hphe m
    · exact some8 _ ⟨_, (a6.trans a7) _ _ b5⟩ rfl
    · exact some8 _ ⟨_, ((a5.trans a6).trans a7) _ _ b4⟩ rfl
  generalize hZ : hide (M14 x0 T0 [D0] x1 T1 [D1] phe) G9 = Z
  have I : S14 d Z G9 x0 T0 [D0] [[]] x1 T1 [D1] [[]] phe [] := ⟨W, U, a9 _ _ b8, dj, nx, ny, by rw [← hZ]; exact Evl.Ex.refl _, fun v hv => by simp at hv⟩
  have out : ∀ z o, G9 z = some o → z ∉ Tfp x0 T0 [D0] → z ∉ Tfp x1 T1 [D1] → z ≠ phe → Z z = some o := fun z o h n1 n2 n3 => by
    rw [← hZ]
    refine hide_at h fun m => ?_
    simp only [M14, List.mem_append (t := [phe]), List.mem_append (s := Tfp x0 T0 [D0]), List.mem_singleton] at m
    rcases m with m | m | m
    · exact n1 m
    · exact n2 m
    · exact n3 m
  have g3 : ∀ {G}, Ex G3 G → G T0 = some (.lst [.ref D0]) := fun e => e _ _ b3
  have g2 : ∀ {G}, Ex G2 G → G D0 = some (.dK []) := fun e => e _ _ b2
  have g5 : ∀ {G}, Ex G5 G → G T1 = some (.lst [.ref D1]) := fun e => e _ _ b5
  have g4 : ∀ {G}, Ex G4 G → G D1 = some (.dK []) := fun e => e _ _ b4
  have e26 := ((a3.trans a4).trans a5)
  have zL : Z Lg = some (.lst [.ref x0.p, .ref x1.p]) := by
    have e19 := (((((((a2.trans a3).trans a4).trans a5).trans a6).trans a7).trans a8).trans a9)
    refine out Lg _ (e19 _ _ b1) (fun m => ?_) (fun m => ?_) (ne_of_none ((((((a2.trans a3).trans a4).trans a5).trans a6).trans a7) _ _ b1) hphe)
    · simp only [List.mem_append, List.mem_cons, List.not_mem_nil, or_false] at m
      rcases m with m | rfl | rfl
      · exact fr0 _ _ (Evl.Ex.refl _) hLg m
      · exact ne_of_none (a2 _ _ b1) hT0 rfl
      · exact ne_of_none b1 hD0 rfl
    · simp only [List.mem_append, List.mem_cons, List.not_mem_nil, or_false] at m
      rcases m with m | rfl | rfl
      · exact fr1 _ _ (Evl.Ex.refl _) hLg m
      · exact ne_of_none (((a2.trans a3).trans a4) _ _ b1) hT1 rfl
      · exact ne_of_none ((a2.trans a3) _ _ b1) hD1 rfl
  have zT : Z Ts = some (.lst [.ref T0, .ref T1]) := by
    refine out Ts _ (((a7.trans a8).trans a9) _ _ b6) (fun m => ?_) (fun m => ?_) (ne_of_none (a7 _ _ b6) hphe)
    · simp only [List.mem_append, List.mem_cons, List.not_mem_nil, or_false] at m
      rcases m with m | rfl | rfl
      · exact fr0 _ _ ee5 hTs m
      · exact ne_of_none (g3 (a4.trans a5)) hTs rfl
      · exact ne_of_none (g2 ((a3.trans a4).trans a5)) hTs rfl
    · simp only [List.mem_append, List.mem_cons, List.not_mem_nil, or_false] at m
      rcases m with m | rfl | rfl
      · exact fr1 _ _ ee5 hTs m
      · exact ne_of_none b5 hTs rfl
      · exact ne_of_none (g4 a5) hTs rfl
  have zl : Z l = some (.lst (ns.map V.int)) := by
    have a68 := ((a6.trans a7).trans a8)
    refine out l _ b9 (fun m => ?_) (fun m => ?_) (Ne.symm (ne_of_none b8 hl))
    · simp only [List.mem_append, List.mem_cons, List.not_mem_nil, or_false] at m
      rcases m with m | rfl | rfl
      · exact fr0 _ _ ee8 hl m
      · exact ne_of_none (g3 ((a4.trans a5).trans a68)) hl rfl
      · exact ne_of_none (g2 (((a3.trans a4).trans a5).trans a68)) hl rfl
    · simp only [List.mem_append, List.mem_cons, List.not_mem_nil, or_false] at m
      rcases m with m | rfl | rfl
      · exact fr1 _ _ ee8 hl m
      · exact ne_of_none (g5 a68) hl rfl
      · exact ne_of_none (g4 (a5.trans a68)) hl rfl
  clear W U dj nx ny out fr0 fr1 t01 some8 hZ g2 g3 g4 g5 e26 ee2 ee3 ee4 ee5 ee6 ee7 ee8 ee9 nT0T1 nT0D1 nD0T1 nD0D1 L1 L2 c1 c2 e01 e12 hS7 hS8 a1 a2 a3 a4 a5 a6 a7 a8 a9 hS b1 b2 b3 b4 b5 b6 b7 b8
  walk_at "go"
  refine f_list (SqL.of b9) (fun i σ H' => ∃ y0 s0 w0 y1 s1 w1 hs x5 x6 x7 x8 x9 x10, σ = [some (.ref a), some (.ref Lg), some (.ref Ts), some (.int bv), some (.ref phe), x5, x6, x7, x8, x9, x10] ∧ y0.p = x0.p ∧ y1.p = x1.p ∧ S14 d Z H' y0 T0 s0 w0 y1 T1 s1 w1 phe hs ∧ hs.length ≤ i)
    ⟨x0, _, _, x1, _, _, [], _, _, _, _, _, _, rfl, rfl, rfl, I, Nat.le_refl _⟩ (fun i σ H _ ⟨_, _, _, _, _, _, _, _, _, _, _, _, _, _, _, _, h, _⟩ => SqL.of (hide_ex _ _ (h.z _ _ zl))) ?_ ?_
  · rintro i x σ H1 hi ⟨y0, s0, w0, y1, s1, w1, hs, x5, x6, x7, x8, x9, x10, rfl, ep0, ep1, I, hlen2⟩
    obtain ⟨c, rfl, hc⟩ := int_item hi
    have hi63 : i < 63 := by
      have := (List.getElem?_eq_some_iff.mp hc).1
      omega
    walk_at "go"
    refine ⟨c, rfl, ?_⟩
    generalize hm : c * 48271 % 999999999989 = mx
    walk_at "go"
    obtain ⟨y, ty, dy, sy, z, tz, dz, sz, J, i1, i2, i3, i4, back⟩ := pick14 I ep0 ep1 (w := mx % 2) (Int.emod_two_eq mx)
    have lg1 := hide_ex _ _ (J.z _ _ zL)
    have ts1 := hide_ex _ _ (J.z _ _ zT)
    refine w_ixL (SqL.of lg1) i1 ?_
    walk_at "go"
    refine w_ixL (SqL.of ts1) i3 ?_
    walk_at "go"
    refine ⟨y, ty, mx / 2, c, bv, dy, sy, rfl, J.W, hbv, fun y' dy' sy' H2 epy W2 c2 => ?_⟩
    have J2 := J.op W2 c2
    have lg2 := hide_ex _ _ (J2.z _ _ zL)
    have ts2 := hide_ex _ _ (J2.z _ _ zT)
    rw [← epy] at i1 back
    clear lg1 ts1
    walk_at "go"
    intro l2 hl2
    generalize hU : upd H2 l2 _ = H3
    have a3 := new_ex hl2 hU
    have b3 := new_at hU
    clear hU
    have J3 := J2.ex a3
    walk_at "go"
    refine f_list (SqL.of b3) (fun i σ H' => (∃ x8, σ = [some (.ref a), some (.ref Lg), some (.ref Ts), some (.int bv), some (.ref phe), some (.int c), some (.int (mx / 2)), some (.int (mx % 2)), x8, x9, x10]) ∧ Ex H3 H') ⟨⟨_, rfl⟩, Evl.Ex.refl _⟩
      (fun i σ H' _ q => SqL.of (q.2 _ _ b3)) ?_ ?_
    · rintro j u σ H4 hj ⟨⟨x8, rfl⟩, e34⟩
      obtain ⟨bx, rfl⟩ : ∃ bx : Int, u = .int bx := by
        have := List.mem_of_getElem? hj
        simp only [List.mem_cons, List.not_mem_nil, or_false] at this
        rcases this with h | h <;> exact ⟨_, h⟩
      have J4 := J3.ex e34
      have lg4 := hide_ex _ _ (J4.z _ _ zL)
      have ts4 := hide_ex _ _ (J4.z _ _ zT)
      walk_at "go"
      refine w_ixL (SqL.of lg4) i1 ?_
      walk_at "go"
      refine w_ixL (SqL.of ts4) i3 ?_
      walk_at "go"
      refine ⟨y', ty, bx, _, dy', sy', rfl, J4.W, fun H5 e5 => ?_⟩
      have J5 := J4.ex e5
      have lg5 := hide_ex _ _ (J5.z _ _ zL)
      have ts5 := hide_ex _ _ (J5.z _ _ zT)
      walk_at "go"
      refine w_ixL (SqL.of lg5) i2 ?_
      walk_at "go"
      refine w_ixL (SqL.of ts5) i4 ?_
      walk_at "go"
      refine ⟨z, tz, bx, _, dz, sz, rfl, J5.U, fun H6 e6 => ?_⟩
      walk_at "go"
      exact ⟨⟨_, rfl⟩, e34.trans (e5.trans e6)⟩
    · rintro σ H4 ⟨⟨x8, rfl⟩, e34⟩
      have J4 := J3.ex e34
      have lg4 := hide_ex _ _ (J4.z _ _ zL)
      walk_at "go"
      refine w_ixL (SqL.of lg4) i1 ?_
      have hp4 := J4.W.L.hp
      walk_at "go"
      obtain ⟨m, tr, hsy⟩ : ∃ m tr, sy' = m :: tr := by
        cases sy' with
        | nil => exact absurd J4.W.ok.t1 (by decide)
        | cons m tr => exact ⟨m, tr, rfl⟩
      subst hsy
      have km := (J4.W.ok.tk m (by simp)).len
      refine ⟨y', m, tr, [], rfl, J4.W.L, Nat.lt_of_le_of_lt km (by decide), fun q H5 xs hq e5 f5 hxs => ?_⟩
      have J5 := J4.ex e5
      have he5 := J5.he
      walk_at "go"
      refine ⟨q, xs, rfl, .inl (SqL.of f5), fun r hr => ?_⟩
      generalize hU : upd H5 r _ = H6
      have e6 := new_ex hr hU
      have f6 := new_at hU
      clear hU
      have J6 := J5.ex e6
      walk_at "go"
      intro t ht
      generalize hU : upd H6 t _ = H7
      have e7 := new_ex ht hU
      have f7 := new_at hU
      clear hU
      have J7 := J6.ex e7
      have he7 := J7.he
      walk_at "go"
      refine w_app he7 (by rw [sizeLine_eq]; exact Nat.lt_of_lt_of_le (Nat.lt_of_le_of_lt hlen2 hi63) (by decide)) ?_
      have dq : DpAll d.K (hide (M14 y' ty dy' z tz dz phe) H7) xs ((bx m).map ddP) := dp_pairs hxs.1 fun i v q' hv hq' => by
        obtain ⟨t, g1, g2, g3⟩ := hxs.2 i v q' hv hq'
        exact ⟨t, g1, hide_at ((e6.trans e7) _ _ g3) (J4.free g2)⟩
      have hh : Held d.K (hide (M14 y' ty dy' z tz dz phe) H7) (.ref t) := ⟨t, q, r, _, rfl, hide_at f7 (J6.free ht), .lst (SqL.of (hide_at ((e6.trans e7) _ _ f5) (J4.free hq))) dq, .lst (SqL.of (hide_at (e7 _ _ f6) (J5.free hr))) dq, shp_pairs _⟩
      have J8 := J7.hold hh
      generalize upd H7 phe (.lst (hs ++ [.ref t])) = H8 at J8 ⊢
      have lg8 := hide_ex _ _ (J8.z _ _ zL)
      walk_at "go"
      refine w_ixL (SqL.of lg8) i1 ?_
      have hp8 := J8.W.L.hp
      walk_at "go"
      refine ⟨y', m, tr, [], rfl, J8.W.L, Nat.lt_of_le_of_lt km (by decide), fun q2 H9 zs hq2 e9 f9 hzs => ?_⟩
      have J9 := J8.ex e9
      walk_at "go"
      intro t2 ht2
      generalize hU : upd H9 t2 _ = HA
      have eA := new_ex ht2 hU
      clear hU
      walk_at "go"
      refine w_app (eA _ _ f9) (by rw [sizeLine_eq, hzs.1, bx_len]; exact Nat.lt_of_le_of_lt km (by decide)) ?_
      have eB : Ex H8 (upd HA q2 (.lst (zs ++ [.ref t2]))) := fun x o h => by rw [upd_ne (ne_of_none h hq2)]; exact (e9.trans eA) _ _ h
      have JB := J8.ex eB
      obtain ⟨y0, s0, w0, y1, s1, w1, q0, q1, IB⟩ := back _ _ _ _ _ rfl JB
      exact ⟨y0, s0, w0, y1, s1, w1, _, _, _, _, _, _, _, rfl, q0, q1, IB, by rw [List.length_append, List.length_singleton]; exact Nat.succ_le_succ hlen2⟩
  · rintro σ H1 ⟨y0, s0, w0, y1, s1, w1, hs, x5, x6, x7, x8, x9, x10, rfl, ep0, ep1, I, hlen2⟩
    have he := I.he
    walk_at "go"
    have lg1 := hide_ex _ _ (I.z _ _ zL)
    refine f_list (SqL.of he) (fun i σ H => H = H1 ∧ ∃ x9 x10, σ = [some (.ref a), some (.ref Lg), some (.ref Ts), some (.int bv), some (.ref phe), x5, x6, x7, x8, x9, x10]) ⟨rfl, _, _, rfl⟩
      (fun i σ H _ ⟨e, _⟩ => by subst e; exact SqL.of he) ?_ ?_
    · rintro i x σ H2 hi ⟨rfl, x9, x10, rfl⟩
      obtain ⟨t, f, u, dd, rfl, h2, h3, h4, h5⟩ := I.hd x (List.mem_of_getElem? hi)
      have h2 := hide_ex _ _ h2
      walk_at "go"
      refine w_neD (dp_mono hide_ex _ _ h3) (dp_mono hide_ex _ _ h4) h5 h5 (eqv_self h5) ?_
      walk_at "go"
      exact ⟨rfl, _, _, rfl⟩
    · rintro σ H2 ⟨rfl, x9, x10, rfl⟩
      have hpa := I.W.L.hp
      walk_at "go"
      rw [← ep0]
      walk_at "go"
      refine ⟨y0, w0, [], rfl, I.W.L, by decide, fun q H3 xs hq e3 f3 hx => ?_⟩
      have exs : xs = [] := List.length_eq_zero_iff.mp (hx.1.trans (bx_len []))
      subst exs
      have lg3 := e3 _ _ lg1
      walk_at "go"
      intro r hr
      generalize hU : upd H3 r _ = H4
      have e4 := new_ex hr hU
      have f4 := new_at hU
      clear hU
      walk_at "go"
      refine w_eqD (d1 := .list []) (d2 := .list []) (b := true) (.lst (SqL.of (e4 _ _ f3)) .nil) (.lst (SqL.of f4) .nil) rfl rfl rfl ?_
      have I4 := I.ex (e3.trans e4)
      have hpb := I4.U.L.hp
      have lg4 := e4 _ _ lg3
      walk_at "go"
      rw [← ep1]
      walk_at "go"
      refine ⟨y1, w1, [], rfl, I4.U.L, by decide, fun q2 H5 xs2 hq2 e5 f5 hx2 => ?_⟩
      have exs : xs2 = [] := List.length_eq_zero_iff.mp (hx2.1.trans (bx_len []))
      subst exs
      walk_at "go"
      intro r2 hr2
      generalize hU : upd H5 r2 _ = H6
      have e6 := new_ex hr2 hU
      have f6 := new_at hU
      clear hU
      walk_at "go"
      refine w_eqD (d1 := .list []) (d2 := .list []) (b := true) (.lst (SqL.of (e6 _ _ f5)) .nil) (.lst (SqL.of f6) .nil) rfl rfl rfl ?_
      exact k _
end
end RT

set_option Elab.async false
set_option linter.all false
set_option maxRecDepth 100000
set_option maxHeartbeats 2000000
namespace Row
open PySem L2 RT
local macro_rules | `(tactic| walk_at "putf") => `(tactic| first | exact putF_nil | exact putF_hit | exact putF_miss (by decide) (by walk_at "putf"))
local macro_rules | `(tactic| walk_at "ne") => `(tactic| first | assumption | exact Ne.symm (by assumption) | ((refine' ne2 ?h1 ?h2); (case h1 => assumption); (case h2 => walk_at "hk")) | ((refine' ne2s ?h1 ?h2); (case h1 => assumption); (case h2 => walk_at "hk")) | exact ne_head (by assumption) | exact ne_of (by assumption) (by assumption) (by intro z; cases z))
local macro_rules | `(tactic| walk_at "hk") => `(tactic| first | assumption | with_reducible exact upd_same | ((with_reducible refine' up_ne ?h1 ?h2); (case h1 => walk_at "ne"); (case h2 => walk_at "hk")) | ((with_reducible refine' ex_at ?h1 ?h2); (case h1 => assumption); (case h2 => walk_at "hk")))
local macro_rules | `(tactic| walk_at "kit") => `(tactic| first | exact kit_int_int | exact kit_int_bool | exact kit_int_str | exact kit_int_list | exact kit_int_tuple | exact kit_int_dict | exact kit_bool_int | exact kit_bool_bool | exact kit_bool_str | exact kit_bool_list | exact kit_bool_tuple | exact kit_bool_dict | exact kit_str_int | exact kit_str_bool | exact kit_str_str | exact kit_str_list | exact kit_str_tuple | exact kit_str_dict | exact kit_NoneType_int | exact kit_NoneType_bool | exact kit_NoneType_str | exact kit_NoneType_list | exact kit_NoneType_tuple | exact kit_NoneType_dict | exact kit_list_int | exact kit_list_bool | exact kit_list_str | exact kit_list_list | exact kit_list_tuple | exact kit_list_dict | exact kit_tuple_int | exact kit_tuple_bool | exact kit_tuple_str | exact kit_tuple_list | exact kit_tuple_tuple | exact kit_tuple_dict | exact kit_dict_int | exact kit_dict_bool | exact kit_dict_str | exact kit_dict_list | exact kit_dict_tuple | exact kit_dict_dict)
local macro_rules | `(tactic| walk_at "sq") => `(tactic| first | assumption | ((with_reducible refine' SqL.of ?h); (case h => walk_at "hk")) | ((with_reducible refine' ex_sq ?h1 ?h2); (case h1 => assumption); (case h2 => walk_at "sq")))
local macro_rules | `(tactic| walk_at "st") => `(tactic| first | assumption | ((with_reducible refine' SqT.of ?h); (case h => walk_at "hk")) | ((with_reducible refine' ex_st ?h1 ?h2); (case h1 => assumption); (case h2 => walk_at "st")))
local macro_rules | `(tactic| walk_at "new") => `(tactic| (intro p hp; generalize hU : upd _ p _ = H'; have e1 := new_ex hp hU; have e2 := new_at hU; clear hU))
local macro_rules | `(tactic| walk_at "set") => `(tactic| ((try simp only [List.set_cons_succ, List.set_cons_zero]); rfl))
local macro_rules | `(tactic| walk_at "small") => `(tactic| first | assumption | (rw [sizeLine_eq]; (try simp only [List.length_cons, List.length_nil, str_len_app, sign_len]); omega) | (with_unfolding_all decide))
local macro_rules | `(tactic| walk_at "sc") => `(tactic| first | assumption | decide | omega | (unfold CMul; omega) | (unfold CDiv; omega) | (unfold CPow; decide) | (unfold CDiv; decide))
local macro_rules | `(tactic| walk_at "step") => `(tactic| first
  | with_reducible refine' w_seq ?_
  | with_reducible refine' w_op ?_
  | ((with_reducible refine' w_var ?h ?_); (case h => rfl))
  | with_reducible refine' w_c ?_
  | with_reducible refine' w_i0 ?_
  | with_reducible refine' w_cons ?_
  | with_reducible refine' w_nil ?_
  | with_reducible refine' w_asg ?_
  | ((with_reducible refine' w_gn ?e ?_); (case e => walk_at "set"))
  | with_reducible refine' w_ifS ?_
  | with_reducible refine' w_test ?_
  | with_reducible refine' w_tB ?_
  | with_reducible refine' w_bl ?_
  | with_reducible refine' w_int ?_
  | with_reducible refine' w_ref ?_
  | with_reducible refine' w_str ?_
  | with_reducible refine' w_eqI ?_
  | with_reducible refine' w_neI ?_
  | with_reducible refine' w_eqS ?_
  | with_reducible refine' w_neS ?_
  | with_reducible refine' w_ret ?_
  | with_reducible refine' w_for ?_
  | with_reducible refine' w_tFld ?_
  | ((with_reducible refine' w_fld ?h ?c ?n ?l ?_); (case h => walk_at "hk"); (case c => assumption); (case n => assumption); (case l => rfl))
  | with_reducible refine' w_sFld ?_
  | ((with_reducible refine' w_rsFld ?h ?c ?n ?l ?e ?_); (case h => walk_at "hk"); (case c => assumption); (case n => assumption); (case e => walk_at "putf"); (case l => (simp only [List.length_cons, List.length_nil]; omega)))
  | with_reducible refine' w_tDGet ?_
  | with_reducible refine' w_tDIn ?_
  | with_reducible refine' w_tDNotIn ?_
  | ((with_reducible refine' w_dinI ?h ?_); (case h => walk_at "hk"))
  | with_reducible refine' w_sDPut ?_
  | with_reducible refine' w_bm ?_
  | with_reducible refine' w_bm0 ?_
  | ((with_reducible refine' w_tyL ?h ?_); (case h => walk_at "sq"))
  | with_reducible refine' w_iRev ?_
  | ((with_reducible refine' w_rev1 ?h ?_); (case h => walk_at "sq"))
  | with_reducible refine' w_iItems ?_
  | with_reducible refine' w_iKeys ?_
  | with_reducible refine' w_iRng3 ?_
  | with_reducible refine' w_iZip ?_
  | with_reducible refine' w_gCons ?_
  | with_reducible refine' w_gNil ?_
  | ((with_reducible refine' w_gTup ?h ?l ?_); (case h => walk_at "st"); (case l => rfl))
  | with_reducible refine' w_m1 ?_
  | with_reducible refine' w_isS ?_
  | with_reducible refine' w_lc ?_
  | with_reducible refine' w_iList ?_
  | with_reducible refine' w_iTup ?_
  | with_reducible refine' w_iStr ?_
  | with_reducible refine' w_iRng1 ?_
  | with_reducible refine' w_iRng2 ?_
  | with_reducible refine' w_v1I ?_
  | with_reducible refine' w_v2I ?_
  | with_reducible refine' w_next ?_
  | with_reducible refine' w_call ?_
  | with_reducible refine' w_cb ?_
  | with_reducible refine' w_and ?_
  | with_reducible refine' w_or ?_
  | with_reducible refine' w_not ?_
  | with_reducible refine' w_andV ?_
  | with_reducible refine' w_orV ?_
  | with_reducible refine' w_notV ?_
  | with_reducible refine' w_ifE ?_
  | with_reducible refine' w_drop ?_
  | with_reducible refine' w_un ?_
  | with_reducible refine' w_u ?_
  | with_reducible refine' w_isNN ?_
  | with_reducible refine' w_isNI ?_
  | with_reducible refine' w_isNS ?_
  | with_reducible refine' w_isNR ?_
  | with_reducible refine' w_notNN ?_
  | with_reducible refine' w_notNI ?_
  | with_reducible refine' w_notNS ?_
  | with_reducible refine' w_notNR ?_
  | with_reducible refine' w_int1 ?_
  | with_reducible refine' w_int1b ?_
  | with_reducible refine' w_tup ?_
  | with_reducible refine' w_lst ?_
  | with_reducible refine' w_dnew ?_
  | with_reducible refine' w_sl ?_
  | with_reducible refine' w_noPart ?_
  | with_reducible refine' w_part ?_
  | with_reducible refine' w_retN ?_
  | with_reducible refine' w_brk ?_
  | with_reducible refine' w_cont ?_
  | with_reducible refine' w_chain ?_
  | with_reducible refine' w_lt ?_
  | with_reducible refine' w_le ?_
  | with_reducible refine' w_gt ?_
  | with_reducible refine' w_ge ?_
  | with_reducible refine' w_ltS ?_
  | with_reducible refine' w_leS ?_
  | with_reducible refine' w_gtS ?_
  | with_reducible refine' w_geS ?_
  | ((with_reducible refine' w_addS ?h ?_); (case h => walk_at "small"))
  | with_reducible refine' w_inS ?_
  | with_reducible refine' w_ninS ?_
  | with_reducible refine' w_par ?_
  | with_reducible refine' w_v2 ?_
  | with_reducible refine' w_max2 ?_
  | with_reducible refine' w_min2 ?_
  | with_reducible refine' w_tru ?_
  | with_reducible refine' w_meth ?_
  | ((with_reducible refine' w_meth1 ?h ?l ?_); (case h => walk_at "hk"); (case l => rfl))
  | with_reducible refine' w_make ?_
  | ((with_reducible refine' w_isiI ?h ?_); (case h => walk_at "kit"))
  | ((with_reducible refine' w_isiB ?h ?_); (case h => walk_at "kit"))
  | ((with_reducible refine' w_isiN ?h ?_); (case h => walk_at "kit"))
  | ((with_reducible refine' w_isiS ?h ?_); (case h => walk_at "kit"))
  | ((with_reducible refine' w_isiSL ?h ?e ?_); (case h => walk_at "sq"); (case e => walk_at "kit"))
  | ((with_reducible refine' w_isiST ?h ?e ?_); (case h => walk_at "st"); (case e => walk_at "kit"))
  | ((with_reducible refine' w_i ?h ?_); (case h => walk_at "sc"))
  | with_reducible refine' w_ttL ?_
  | with_reducible refine' w_ffL ?_
  | ((with_reducible refine' w_tt ?h ?_); (case h => first | exact dB_t (by decide) | exact nB_t (by decide) | decide))
  | ((with_reducible refine' w_ff ?h ?_); (case h => first | exact dB_f (by decide) | exact nB_f (by decide) | decide))
  | ((with_reducible refine' w_lenS ?h ?_); (case h => walk_at "sq"))
  | ((with_reducible refine' w_lenT ?h ?_); (case h => walk_at "st"))
  | ((with_reducible refine' w_slL ?h ?_); (case h => walk_at "sq"))
  | ((with_reducible refine' w_aug ?h ?_); (case h => rfl))
  | with_reducible refine' w_ip ?_
  | ((with_reducible refine' w_cat ?h1 ?h2 ?h3 ?_); (case h1 => walk_at "hk"); (case h2 => walk_at "hk"); (case h3 => walk_at "small"))
  | ((with_reducible refine' w_ixL ?h1 ?h2 ?_); (case h1 => walk_at "sq"); (case h2 => rfl))
  | ((with_reducible refine' w_ixT ?h1 ?h2 ?_); (case h1 => walk_at "st"); (case h2 => rfl))
  | ((with_reducible refine' w_lenStr ?h ?_); (case h => walk_at "small"))
  | ((with_reducible refine' w_slS ?h ?_); (case h => walk_at "small"))
  | ((with_reducible refine' w_sz ?h ?_); (case h => walk_at "small")))
local macro_rules | `(tactic| walk_at "go") => `(tactic| (repeat (first | walk_at "step" | walk_at "callx")))
local macro_rules | `(tactic| walk_at "goN") => `(tactic| (repeat (first | walk_at "step" | walk_at "callx" | ((with_reducible show ∀ p, _ = none → _); walk_at "new"))))
local macro_rules | `(tactic| walk_at "len") => `(tactic| first
  | (obtain ⟨rfl, _⟩ := h; rfl) | (obtain ⟨_, rfl, _⟩ := h; rfl) | (obtain ⟨_, _, rfl, _⟩ := h; rfl) | (obtain ⟨_, _, _, rfl, _⟩ := h; rfl) | (obtain ⟨_, _, _, _, rfl, _⟩ := h; rfl)
  | (obtain ⟨_, _, _, _, _, rfl, _⟩ := h; rfl) | (obtain ⟨_, _, _, _, _, _, rfl, _⟩ := h; rfl) | (obtain ⟨_, _, _, _, _, _, _, rfl, _⟩ := h; rfl) | (obtain ⟨_, _, _, _, _, _, _, _, rfl, _⟩ := h; rfl)
  | (obtain ⟨_, _, _, _, _, _, _, _, _, rfl, _⟩ := h; rfl) | (obtain ⟨_, _, _, _, _, _, _, _, _, _, rfl, _⟩ := h; rfl))
local macro_rules | `(tactic| walk_at "dec") => `(tactic| (first | with_reducible apply w_dec | with_reducible apply w_ndec | with_reducible apply w_bool) <;> intro hc)
def top (i : Nat) : Stmt := PySem.Challenge.pw_retryhall_k14_log_layers.main.body.getD i (.Pass ⟨0, 0, 0, 0⟩)
abbrev s_by_boxes : Stmt := top 2
theorem sc_by_boxes : FnScope N_by_boxes ["found"] (defScope s_by_boxes) := ⟨rfl, rfl, rfl, by decide +kernel, rfl, by decide +kernel, by decide +kernel⟩
abbrev s_Log_init : Stmt := inClass (top 3) 0
theorem sc_Log_init : FnScope N_Log_init ["self"] (defScope s_Log_init) := ⟨rfl, rfl, rfl, by decide +kernel, rfl, by decide +kernel, by decide +kernel⟩
abbrev s_Log_write : Stmt := inClass (top 3) 1
theorem sc_Log_write : FnScope N_Log_write ["self", "box", "number"] (defScope s_Log_write) := ⟨rfl, rfl, rfl, by decide +kernel, rfl, by decide +kernel, by decide +kernel⟩
abbrev s_Log_own : Stmt := inClass (top 3) 2
theorem sc_Log_own : FnScope N_Log_own ["self", "box"] (defScope s_Log_own) := ⟨rfl, rfl, rfl, by decide +kernel, rfl, by decide +kernel, by decide +kernel⟩
abbrev s_Log_begin : Stmt := inClass (top 3) 3
theorem sc_Log_begin : FnScope N_Log_begin ["self"] (defScope s_Log_begin) := ⟨rfl, rfl, rfl, by decide +kernel, rfl, by decide +kernel, by decide +kernel⟩
abbrev s_Log_settle : Stmt := inClass (top 3) 4
theorem sc_Log_settle : FnScope N_Log_settle ["self"] (defScope s_Log_settle) := ⟨rfl, rfl, rfl, by decide +kernel, rfl, by decide +kernel, by decide +kernel⟩
abbrev s_Log_drop : Stmt := inClass (top 3) 5
theorem sc_Log_drop : FnScope N_Log_drop ["self"] (defScope s_Log_drop) := ⟨rfl, rfl, rfl, by decide +kernel, rfl, by decide +kernel, by decide +kernel⟩
abbrev s_Log_layers : Stmt := inClass (top 3) 6
theorem sc_Log_layers : FnScope N_Log_layers ["self"] (defScope s_Log_layers) := ⟨rfl, rfl, rfl, by decide +kernel, rfl, by decide +kernel, by decide +kernel⟩
abbrev s_Log_saw : Stmt := inClass (top 3) 8
theorem sc_Log_saw : FnScope N_Log_saw ["self"] (defScope s_Log_saw) := ⟨rfl, rfl, rfl, by decide +kernel, rfl, by decide +kernel, by decide +kernel⟩
abbrev s_Log_wrote : Stmt := inClass (top 3) 9
theorem sc_Log_wrote : FnScope N_Log_wrote ["self"] (defScope s_Log_wrote) := ⟨rfl, rfl, rfl, by decide +kernel, rfl, by decide +kernel, by decide +kernel⟩
abbrev s_l_cell_at : Stmt := top 5
theorem sc_l_cell_at : FnScope N_l_cell_at ["_law_script", "_law_k"] (defScope s_l_cell_at) := ⟨rfl, rfl, rfl, by decide +kernel, rfl, by decide +kernel, by decide +kernel⟩
abbrev s_l_mixed : Stmt := top 6
theorem sc_l_mixed : FnScope N_l_mixed ["_law_cell"] (defScope s_l_mixed) := ⟨rfl, rfl, rfl, by decide +kernel, rfl, by decide +kernel, by decide +kernel⟩
abbrev s_l_alike : Stmt := top 7
theorem sc_l_alike : FnScope N_l_alike ["_law_found", "_law_due"] (defScope s_l_alike) := ⟨rfl, rfl, rfl, by decide +kernel, rfl, by decide +kernel, by decide +kernel⟩
abbrev s_l_own : Stmt := top 8
theorem sc_l_own : FnScope N_l_own ["_law_tiers", "_law_box"] (defScope s_l_own) := ⟨rfl, rfl, rfl, by decide +kernel, rfl, by decide +kernel, by decide +kernel⟩
abbrev s_l_done : Stmt := top 9
theorem sc_l_done : FnScope N_l_done ["_law_log", "_law_tiers", "_law_mixed_here", "_law_cell", "_law_boxes"] (defScope s_l_done) := ⟨rfl, rfl, rfl, by decide +kernel, rfl, by decide +kernel, by decide +kernel⟩
abbrev s_l_stands : Stmt := top 10
theorem sc_l_stands : FnScope N_l_stands ["_law_log", "_law_tiers", "_law_box", "_law_turn"] (defScope s_l_stands) := ⟨rfl, rfl, rfl, by decide +kernel, rfl, by decide +kernel, by decide +kernel⟩
abbrev s_law : Stmt := top 11
theorem sc_law : FnScope N_law ["_law_script"] (defScope s_law) := ⟨rfl, rfl, rfl, by decide +kernel, rfl, by decide +kernel, by decide +kernel⟩
structure Fs where
  f_by_boxes : Addr
  d_by_boxes : FuncData
  f_Log_init : Addr
  d_Log_init : FuncData
  f_Log_write : Addr
  d_Log_write : FuncData
  f_Log_own : Addr
  d_Log_own : FuncData
  f_Log_begin : Addr
  d_Log_begin : FuncData
  f_Log_settle : Addr
  d_Log_settle : FuncData
  f_Log_drop : Addr
  d_Log_drop : FuncData
  f_Log_layers : Addr
  d_Log_layers : FuncData
  f_Log_saw : Addr
  d_Log_saw : FuncData
  f_Log_wrote : Addr
  d_Log_wrote : FuncData
  f_l_cell_at : Addr
  d_l_cell_at : FuncData
  f_l_mixed : Addr
  d_l_mixed : FuncData
  f_l_alike : Addr
  d_l_alike : FuncData
  f_l_own : Addr
  d_l_own : FuncData
  f_l_done : Addr
  d_l_done : FuncData
  f_l_stands : Addr
  d_l_stands : FuncData
  f_law : Addr
  d_law : FuncData
structure Txt (d : Ad) (mg : Str → Option Value) (z : Fs) : Prop where
  F_by_boxes : Fun d.K "by_boxes" "by_boxes" s_by_boxes z.f_by_boxes z.d_by_boxes
  B_by_boxes : Binds d.K z.d_by_boxes ["found"] []
  m_by_boxes : mg "by_boxes" = some (.ref z.f_by_boxes)
  F_Log_init : Fun d.K "__init__" "Log.__init__" s_Log_init z.f_Log_init z.d_Log_init
  B_Log_init : Binds d.K z.d_Log_init ["self"] []
  K_Log : Mk d.K d.cLog z.f_Log_init
  F_Log_write : Fun d.K "write" "Log.write" s_Log_write z.f_Log_write z.d_Log_write
  B_Log_write : Binds d.K z.d_Log_write ["self", "box", "number"] []
  M_Log_write : Meth d.K d.cLog "write" z.f_Log_write
  F_Log_own : Fun d.K "own" "Log.own" s_Log_own z.f_Log_own z.d_Log_own
  B_Log_own : Binds d.K z.d_Log_own ["self", "box"] []
  M_Log_own : Meth d.K d.cLog "own" z.f_Log_own
  F_Log_begin : Fun d.K "begin" "Log.begin" s_Log_begin z.f_Log_begin z.d_Log_begin
  B_Log_begin : Binds d.K z.d_Log_begin ["self"] []
  M_Log_begin : Meth d.K d.cLog "begin" z.f_Log_begin
  F_Log_settle : Fun d.K "settle" "Log.settle" s_Log_settle z.f_Log_settle z.d_Log_settle
  B_Log_settle : Binds d.K z.d_Log_settle ["self"] []
  M_Log_settle : Meth d.K d.cLog "settle" z.f_Log_settle
  F_Log_drop : Fun d.K "drop" "Log.drop" s_Log_drop z.f_Log_drop z.d_Log_drop
  B_Log_drop : Binds d.K z.d_Log_drop ["self"] []
  M_Log_drop : Meth d.K d.cLog "drop" z.f_Log_drop
  F_Log_layers : Fun d.K "layers" "Log.layers" s_Log_layers z.f_Log_layers z.d_Log_layers
  B_Log_layers : Binds d.K z.d_Log_layers ["self"] []
  M_Log_layers : Meth d.K d.cLog "layers" z.f_Log_layers
  F_Log_saw : Fun d.K "saw" "Log.saw" s_Log_saw z.f_Log_saw z.d_Log_saw
  B_Log_saw : Binds d.K z.d_Log_saw ["self"] []
  M_Log_saw : Meth d.K d.cLog "saw" z.f_Log_saw
  F_Log_wrote : Fun d.K "wrote" "Log.wrote" s_Log_wrote z.f_Log_wrote z.d_Log_wrote
  B_Log_wrote : Binds d.K z.d_Log_wrote ["self"] []
  M_Log_wrote : Meth d.K d.cLog "wrote" z.f_Log_wrote
  F_l_cell_at : Fun d.K "_law_cell_at" "_law_cell_at" s_l_cell_at z.f_l_cell_at z.d_l_cell_at
  B_l_cell_at : Binds d.K z.d_l_cell_at ["_law_script", "_law_k"] []
  m_l_cell_at : mg "_law_cell_at" = some (.ref z.f_l_cell_at)
  F_l_mixed : Fun d.K "_law_mixed" "_law_mixed" s_l_mixed z.f_l_mixed z.d_l_mixed
  B_l_mixed : Binds d.K z.d_l_mixed ["_law_cell"] []
  m_l_mixed : mg "_law_mixed" = some (.ref z.f_l_mixed)
  F_l_alike : Fun d.K "_law_alike" "_law_alike" s_l_alike z.f_l_alike z.d_l_alike
  B_l_alike : Binds d.K z.d_l_alike ["_law_found", "_law_due"] []
  m_l_alike : mg "_law_alike" = some (.ref z.f_l_alike)
  F_l_own : Fun d.K "_law_own" "_law_own" s_l_own z.f_l_own z.d_l_own
  B_l_own : Binds d.K z.d_l_own ["_law_tiers", "_law_box"] []
  m_l_own : mg "_law_own" = some (.ref z.f_l_own)
  F_l_done : Fun d.K "_law_done" "_law_done" s_l_done z.f_l_done z.d_l_done
  B_l_done : Binds d.K z.d_l_done ["_law_log", "_law_tiers", "_law_mixed_here", "_law_cell", "_law_boxes"] []
  m_l_done : mg "_law_done" = some (.ref z.f_l_done)
  F_l_stands : Fun d.K "_law_stands" "_law_stands" s_l_stands z.f_l_stands z.d_l_stands
  B_l_stands : Binds d.K z.d_l_stands ["_law_log", "_law_tiers", "_law_box", "_law_turn"] []
  m_l_stands : mg "_law_stands" = some (.ref z.f_l_stands)
  F_law : Fun d.K "law" "law" s_law z.f_law z.d_law
  B_law : Binds d.K z.d_law ["_law_script"] []
  m_law : mg "law" = some (.ref z.f_law)
  b_bool : mg "bool" = none
  b_int : mg "int" = none
  b_isinstance : mg "isinstance" = none
  b_len : mg "len" = none
  b_list : mg "list" = none
  b_range : mg "range" = none
  b_reversed : mg "reversed" = none
  b_sorted : mg "sorted" = none
  b_str : mg "str" = none
  b_tuple : mg "tuple" = none
  g_Log : mg "Log" = some (.ref d.cLog)
  t_Log : TLog d
section
variable {P : Program} {w : World} {mg : Str → Option Value} {base : Heap} {d : Ad} {z : Fs}
theorem ok_by_boxes (T : Txt d mg z) : FnOk P w d.K mg base CX0 1 z.f_by_boxes z.d_by_boxes ["found"] (sp_by_boxes d) := by
  refine T.F_by_boxes.ok sc_by_boxes (fun vs H Q E h => by first | (obtain ⟨rfl, _⟩ := h; rfl) | (obtain ⟨_, rfl, _⟩ := h; rfl) | (obtain ⟨_, _, rfl, _⟩ := h; rfl) | (obtain ⟨_, _, _, rfl, _⟩ := h; rfl) | (obtain ⟨_, _, _, _, rfl, _⟩ := h; rfl) | (obtain ⟨_, _, _, _, _, rfl, _⟩ := h; rfl) | (obtain ⟨_, _, _, _, _, _, rfl, _⟩ := h; rfl) | (obtain ⟨_, _, _, _, _, _, _, rfl, _⟩ := h; rfl) | (obtain ⟨_, _, _, _, _, _, _, _, rfl, _⟩ := h; rfl) | (obtain ⟨_, _, _, _, _, _, _, _, _, rfl, _⟩ := h; rfl) | (obtain ⟨_, _, _, _, _, _, _, _, _, _, rfl, _⟩ := h; rfl)) (fun cdv A outer s H vs Q E hr h => ⟨t_by_boxes d, ?_, pure_by_boxes  h⟩)
  have hu := hu_of hr
  exact (pss_one (ps_ret (pe_lc (own := [("box", 1)]) rfl sc_by_boxes.nd (pi_list (pe_callB (call_sortedDI rfl) (by rfl) T.b_sorted (by decide +kernel) (pa_cons (pv 0) pa_nil))) (blkOk_by (own := [("box", 1)]) (N := N_by_boxes) (sc := defScope s_by_boxes) (by decide +kernel)) (fun _ _ _ _ _ => (pg_name (i := 1) sc_by_boxes.nd rfl (Or.inl rfl))) (fun _ _ _ _ _ => pts_nil) (fun _ _ _ _ _ => (pe_tup (pa_cons (pv 1) (pa_cons (pe_dget hu (pv 0) (pv 1) (fun _ _ => rfl)) pa_nil)))))))
theorem ok_Log_init (T : Txt d mg z) : FnOk P w d.K mg base CX0 1 z.f_Log_init z.d_Log_init ["self"] (sp_Log_init d) := by
  refine T.F_Log_init.ok sc_Log_init (fun vs H Q E h => by first | (obtain ⟨rfl, _⟩ := h; rfl) | (obtain ⟨_, rfl, _⟩ := h; rfl) | (obtain ⟨_, _, rfl, _⟩ := h; rfl) | (obtain ⟨_, _, _, rfl, _⟩ := h; rfl) | (obtain ⟨_, _, _, _, rfl, _⟩ := h; rfl) | (obtain ⟨_, _, _, _, _, rfl, _⟩ := h; rfl) | (obtain ⟨_, _, _, _, _, _, rfl, _⟩ := h; rfl) | (obtain ⟨_, _, _, _, _, _, _, rfl, _⟩ := h; rfl) | (obtain ⟨_, _, _, _, _, _, _, _, rfl, _⟩ := h; rfl) | (obtain ⟨_, _, _, _, _, _, _, _, _, rfl, _⟩ := h; rfl) | (obtain ⟨_, _, _, _, _, _, _, _, _, _, rfl, _⟩ := h; rfl)) (fun cdv A outer s H vs Q E hr h => ⟨t_Log_init d, ?_, pure_Log_init T.t_Log h⟩)
  exact (pss_cons (ps_fld (pv 0) (pe_lst (pa_cons pe_dnewK pa_nil)) rfl)
      (pss_one (ps_fld (pv 0) pe_dnewK rfl)))
theorem ok_Log_write (T : Txt d mg z) : FnOk P w d.K mg base CX0 1 z.f_Log_write z.d_Log_write ["self", "box", "number"] (sp_Log_write d) := by
  refine T.F_Log_write.ok sc_Log_write (fun vs H Q E h => by first | (obtain ⟨rfl, _⟩ := h; rfl) | (obtain ⟨_, rfl, _⟩ := h; rfl) | (obtain ⟨_, _, rfl, _⟩ := h; rfl) | (obtain ⟨_, _, _, rfl, _⟩ := h; rfl) | (obtain ⟨_, _, _, _, rfl, _⟩ := h; rfl) | (obtain ⟨_, _, _, _, _, rfl, _⟩ := h; rfl) | (obtain ⟨_, _, _, _, _, _, rfl, _⟩ := h; rfl) | (obtain ⟨_, _, _, _, _, _, _, rfl, _⟩ := h; rfl) | (obtain ⟨_, _, _, _, _, _, _, _, rfl, _⟩ := h; rfl) | (obtain ⟨_, _, _, _, _, _, _, _, _, rfl, _⟩ := h; rfl) | (obtain ⟨_, _, _, _, _, _, _, _, _, _, rfl, _⟩ := h; rfl)) (fun cdv A outer s H vs Q E hr h => ⟨t_Log_write d, ?_, pure_Log_write T.t_Log h⟩)
  have hu := hu_of hr
  exact (pss_one (ps_dput hu (pe_ix ix_list (pe_fld (pv 0) rfl) (pe_un un_neg pe_int) (fun _ _ => rfl)) (pv 1) (pv 2) rfl))
theorem ok_Log_own (T : Txt d mg z) : FnOk P w d.K mg base CX0 1 z.f_Log_own z.d_Log_own ["self", "box"] (sp_Log_own d) := by
  refine T.F_Log_own.ok sc_Log_own (fun vs H Q E h => by first | (obtain ⟨rfl, _⟩ := h; rfl) | (obtain ⟨_, rfl, _⟩ := h; rfl) | (obtain ⟨_, _, rfl, _⟩ := h; rfl) | (obtain ⟨_, _, _, rfl, _⟩ := h; rfl) | (obtain ⟨_, _, _, _, rfl, _⟩ := h; rfl) | (obtain ⟨_, _, _, _, _, rfl, _⟩ := h; rfl) | (obtain ⟨_, _, _, _, _, _, rfl, _⟩ := h; rfl) | (obtain ⟨_, _, _, _, _, _, _, rfl, _⟩ := h; rfl) | (obtain ⟨_, _, _, _, _, _, _, _, rfl, _⟩ := h; rfl) | (obtain ⟨_, _, _, _, _, _, _, _, _, rfl, _⟩ := h; rfl) | (obtain ⟨_, _, _, _, _, _, _, _, _, _, rfl, _⟩ := h; rfl)) (fun cdv A outer s H vs Q E hr h => ⟨t_Log_own d, ?_, pure_Log_own T.t_Log h⟩)
  have hu := hu_of hr
  exact (pss_cons (ps_for PassesOwn.never rfl (pi_reversed (by rfl) T.b_reversed (pa_cons (pe_fld (pv 0) rfl) pa_nil)) (pg_name (i := 2) sc_Log_own.nd rfl (Or.inl rfl)) (pss_one (ps_if (pt_cmp (pc_din hu (pv 1) (pv 2))) (pss_one (ps_ret (pe_dget hu (pv 2) (pv 1) (fun _ _ => rfl)))) pss_nil)))
      (pss_one (ps_ret pe_non)))
theorem ok_Log_begin (T : Txt d mg z) : FnOk P w d.K mg base CX0 1 z.f_Log_begin z.d_Log_begin ["self"] (sp_Log_begin d) := by
  refine T.F_Log_begin.ok sc_Log_begin (fun vs H Q E h => by first | (obtain ⟨rfl, _⟩ := h; rfl) | (obtain ⟨_, rfl, _⟩ := h; rfl) | (obtain ⟨_, _, rfl, _⟩ := h; rfl) | (obtain ⟨_, _, _, rfl, _⟩ := h; rfl) | (obtain ⟨_, _, _, _, rfl, _⟩ := h; rfl) | (obtain ⟨_, _, _, _, _, rfl, _⟩ := h; rfl) | (obtain ⟨_, _, _, _, _, _, rfl, _⟩ := h; rfl) | (obtain ⟨_, _, _, _, _, _, _, rfl, _⟩ := h; rfl) | (obtain ⟨_, _, _, _, _, _, _, _, rfl, _⟩ := h; rfl) | (obtain ⟨_, _, _, _, _, _, _, _, _, rfl, _⟩ := h; rfl) | (obtain ⟨_, _, _, _, _, _, _, _, _, _, rfl, _⟩ := h; rfl)) (fun cdv A outer s H vs Q E hr h => ⟨t_Log_begin d, ?_, pure_Log_begin T.t_Log h⟩)
  exact (pss_one (ps_expr (pe_bm PySem.F.plainAttrs_list PySem.F.slot_list_append PySem.F.type_list_append mt_append (pe_fld (pv 0) rfl) (pa_cons pe_dnewK pa_nil))))
theorem ok_Log_settle (T : Txt d mg z) : FnOk P w d.K mg base CX0 1 z.f_Log_settle z.d_Log_settle ["self"] (sp_Log_settle d) := by
  refine T.F_Log_settle.ok sc_Log_settle (fun vs H Q E h => by first | (obtain ⟨rfl, _⟩ := h; rfl) | (obtain ⟨_, rfl, _⟩ := h; rfl) | (obtain ⟨_, _, rfl, _⟩ := h; rfl) | (obtain ⟨_, _, _, rfl, _⟩ := h; rfl) | (obtain ⟨_, _, _, _, rfl, _⟩ := h; rfl) | (obtain ⟨_, _, _, _, _, rfl, _⟩ := h; rfl) | (obtain ⟨_, _, _, _, _, _, rfl, _⟩ := h; rfl) | (obtain ⟨_, _, _, _, _, _, _, rfl, _⟩ := h; rfl) | (obtain ⟨_, _, _, _, _, _, _, _, rfl, _⟩ := h; rfl) | (obtain ⟨_, _, _, _, _, _, _, _, _, rfl, _⟩ := h; rfl) | (obtain ⟨_, _, _, _, _, _, _, _, _, _, rfl, _⟩ := h; rfl)) (fun cdv A outer s H vs Q E hr h => ⟨t_Log_settle d, ?_, pure_Log_settle T.t_Log h⟩)
  have hu := hu_of hr
  exact (pss_cons (ps_set (i := 1) sc_Log_settle.nd rfl (Or.inl rfl) (pe_bm0 PySem.F.plainAttrs_list PySem.F.slot_list_pop PySem.F.type_list_pop mt_pop (pe_fld (pv 0) rfl)))
      (pss_one (ps_lock (ps_for PassesOwn.never rfl (pi_items (pv 1)) (pg_tup rfl (pgs_cons (pg_name (i := 2) sc_Log_settle.nd rfl (Or.inl rfl)) (pgs_cons (pg_name (i := 3) sc_Log_settle.nd rfl (Or.inl rfl)) pgs_nil))) (pss_one (ps_dput hu (pe_ix ix_list (pe_fld (pv 0) rfl) (pe_un un_neg pe_int) (fun _ _ => rfl)) (pv 2) (pv 3) rfl))))))
theorem ok_Log_drop (T : Txt d mg z) : FnOk P w d.K mg base CX0 1 z.f_Log_drop z.d_Log_drop ["self"] (sp_Log_drop d) := by
  refine T.F_Log_drop.ok sc_Log_drop (fun vs H Q E h => by first | (obtain ⟨rfl, _⟩ := h; rfl) | (obtain ⟨_, rfl, _⟩ := h; rfl) | (obtain ⟨_, _, rfl, _⟩ := h; rfl) | (obtain ⟨_, _, _, rfl, _⟩ := h; rfl) | (obtain ⟨_, _, _, _, rfl, _⟩ := h; rfl) | (obtain ⟨_, _, _, _, _, rfl, _⟩ := h; rfl) | (obtain ⟨_, _, _, _, _, _, rfl, _⟩ := h; rfl) | (obtain ⟨_, _, _, _, _, _, _, rfl, _⟩ := h; rfl) | (obtain ⟨_, _, _, _, _, _, _, _, rfl, _⟩ := h; rfl) | (obtain ⟨_, _, _, _, _, _, _, _, _, rfl, _⟩ := h; rfl) | (obtain ⟨_, _, _, _, _, _, _, _, _, _, rfl, _⟩ := h; rfl)) (fun cdv A outer s H vs Q E hr h => ⟨t_Log_drop d, ?_, pure_Log_drop T.t_Log h⟩)
  exact (pss_one (ps_expr (pe_bm0 PySem.F.plainAttrs_list PySem.F.slot_list_pop PySem.F.type_list_pop mt_pop (pe_fld (pv 0) rfl))))
theorem ok_Log_layers (T : Txt d mg z) : FnOk P w d.K mg base CX0 1 z.f_Log_layers z.d_Log_layers ["self"] (sp_Log_layers d) := by
  refine T.F_Log_layers.ok sc_Log_layers (fun vs H Q E h => by first | (obtain ⟨rfl, _⟩ := h; rfl) | (obtain ⟨_, rfl, _⟩ := h; rfl) | (obtain ⟨_, _, rfl, _⟩ := h; rfl) | (obtain ⟨_, _, _, rfl, _⟩ := h; rfl) | (obtain ⟨_, _, _, _, rfl, _⟩ := h; rfl) | (obtain ⟨_, _, _, _, _, rfl, _⟩ := h; rfl) | (obtain ⟨_, _, _, _, _, _, rfl, _⟩ := h; rfl) | (obtain ⟨_, _, _, _, _, _, _, rfl, _⟩ := h; rfl) | (obtain ⟨_, _, _, _, _, _, _, _, rfl, _⟩ := h; rfl) | (obtain ⟨_, _, _, _, _, _, _, _, _, rfl, _⟩ := h; rfl) | (obtain ⟨_, _, _, _, _, _, _, _, _, _, rfl, _⟩ := h; rfl)) (fun cdv A outer s H vs Q E hr h => ⟨t_Log_layers d, ?_, pure_Log_layers T.t_Log h⟩)
  exact (pss_one (ps_ret (pe_callB call_len_seq (by rfl) T.b_len (by decide +kernel) (pa_cons (pe_fld (pv 0) rfl) pa_nil))))
theorem ok_Log_saw (T : Txt d mg z) : FnOk P w d.K mg base CX0 2 z.f_Log_saw z.d_Log_saw ["self"] (sp_Log_saw d) := by
  have G_by_boxes := ok_by_boxes (P := P) (w := w) (base := base) T
  refine T.F_Log_saw.ok sc_Log_saw (fun vs H Q E h => by first | (obtain ⟨rfl, _⟩ := h; rfl) | (obtain ⟨_, rfl, _⟩ := h; rfl) | (obtain ⟨_, _, rfl, _⟩ := h; rfl) | (obtain ⟨_, _, _, rfl, _⟩ := h; rfl) | (obtain ⟨_, _, _, _, rfl, _⟩ := h; rfl) | (obtain ⟨_, _, _, _, _, rfl, _⟩ := h; rfl) | (obtain ⟨_, _, _, _, _, _, rfl, _⟩ := h; rfl) | (obtain ⟨_, _, _, _, _, _, _, rfl, _⟩ := h; rfl) | (obtain ⟨_, _, _, _, _, _, _, _, rfl, _⟩ := h; rfl) | (obtain ⟨_, _, _, _, _, _, _, _, _, rfl, _⟩ := h; rfl) | (obtain ⟨_, _, _, _, _, _, _, _, _, _, rfl, _⟩ := h; rfl)) (fun cdv A outer s H vs Q E hr h => ⟨t_Log_saw d, ?_, pure_Log_saw T.t_Log h⟩)
  exact (pss_one (ps_ret (pe_call G_by_boxes (hr.mono (by omega)) rfl T.m_by_boxes T.F_by_boxes.kp T.B_by_boxes .nil pass0 (pa_cons (pe_fld (pv 0) rfl) pa_nil))))
theorem ok_Log_wrote (T : Txt d mg z) : FnOk P w d.K mg base CX0 2 z.f_Log_wrote z.d_Log_wrote ["self"] (sp_Log_wrote d) := by
  have G_by_boxes := ok_by_boxes (P := P) (w := w) (base := base) T
  refine T.F_Log_wrote.ok sc_Log_wrote (fun vs H Q E h => by first | (obtain ⟨rfl, _⟩ := h; rfl) | (obtain ⟨_, rfl, _⟩ := h; rfl) | (obtain ⟨_, _, rfl, _⟩ := h; rfl) | (obtain ⟨_, _, _, rfl, _⟩ := h; rfl) | (obtain ⟨_, _, _, _, rfl, _⟩ := h; rfl) | (obtain ⟨_, _, _, _, _, rfl, _⟩ := h; rfl) | (obtain ⟨_, _, _, _, _, _, rfl, _⟩ := h; rfl) | (obtain ⟨_, _, _, _, _, _, _, rfl, _⟩ := h; rfl) | (obtain ⟨_, _, _, _, _, _, _, _, rfl, _⟩ := h; rfl) | (obtain ⟨_, _, _, _, _, _, _, _, _, rfl, _⟩ := h; rfl) | (obtain ⟨_, _, _, _, _, _, _, _, _, _, rfl, _⟩ := h; rfl)) (fun cdv A outer s H vs Q E hr h => ⟨t_Log_wrote d, ?_, pure_Log_wrote T.t_Log h⟩)
  exact (pss_one (ps_ret (pe_call G_by_boxes (hr.mono (by omega)) rfl T.m_by_boxes T.F_by_boxes.kp T.B_by_boxes .nil pass0 (pa_cons (pe_ix ix_list (pe_fld (pv 0) rfl) pe_int (fun _ _ => rfl)) pa_nil))))
theorem ok_l_cell_at (T : Txt d mg z) : FnOk P w d.K mg base CX0 1 z.f_l_cell_at z.d_l_cell_at ["_law_script", "_law_k"] (sp_l_cell_at d) := by
  refine T.F_l_cell_at.ok sc_l_cell_at (fun vs H Q E h => by first | (obtain ⟨rfl, _⟩ := h; rfl) | (obtain ⟨_, rfl, _⟩ := h; rfl) | (obtain ⟨_, _, rfl, _⟩ := h; rfl) | (obtain ⟨_, _, _, rfl, _⟩ := h; rfl) | (obtain ⟨_, _, _, _, rfl, _⟩ := h; rfl) | (obtain ⟨_, _, _, _, _, rfl, _⟩ := h; rfl) | (obtain ⟨_, _, _, _, _, _, rfl, _⟩ := h; rfl) | (obtain ⟨_, _, _, _, _, _, _, rfl, _⟩ := h; rfl) | (obtain ⟨_, _, _, _, _, _, _, _, rfl, _⟩ := h; rfl) | (obtain ⟨_, _, _, _, _, _, _, _, _, rfl, _⟩ := h; rfl) | (obtain ⟨_, _, _, _, _, _, _, _, _, _, rfl, _⟩ := h; rfl)) (fun cdv A outer s H vs Q E hr h => ⟨t_l_cell_at d, ?_, pure_l_cell_at  h⟩)
  exact (pss_cons (ps_if (pt_cmpR o_lt (pv 1) (pe_callB call_len_seq (by rfl) T.b_len (by decide +kernel) (pa_cons (pv 0) pa_nil)) (nomark _)) (pss_one (ps_ret (pe_ix ix_list (pv 0) (pv 1) (fun _ _ => rfl)))) pss_nil)
      (pss_one (ps_ret pe_int)))
theorem ok_l_mixed (T : Txt d mg z) : FnOk P w d.K mg base CX0 1 z.f_l_mixed z.d_l_mixed ["_law_cell"] (sp_l_mixed d) := by
  refine T.F_l_mixed.ok sc_l_mixed (fun vs H Q E h => by first | (obtain ⟨rfl, _⟩ := h; rfl) | (obtain ⟨_, rfl, _⟩ := h; rfl) | (obtain ⟨_, _, rfl, _⟩ := h; rfl) | (obtain ⟨_, _, _, rfl, _⟩ := h; rfl) | (obtain ⟨_, _, _, _, rfl, _⟩ := h; rfl) | (obtain ⟨_, _, _, _, _, rfl, _⟩ := h; rfl) | (obtain ⟨_, _, _, _, _, _, rfl, _⟩ := h; rfl) | (obtain ⟨_, _, _, _, _, _, _, rfl, _⟩ := h; rfl) | (obtain ⟨_, _, _, _, _, _, _, _, rfl, _⟩ := h; rfl) | (obtain ⟨_, _, _, _, _, _, _, _, _, rfl, _⟩ := h; rfl) | (obtain ⟨_, _, _, _, _, _, _, _, _, _, rfl, _⟩ := h; rfl)) (fun cdv A outer s H vs Q E hr h => ⟨t_l_mixed d, ?_, pure_l_mixed  h⟩)
  exact (pss_one (ps_ret (pe_op op_mod (pe_op op_mul (pv 0) pe_int) pe_int)))
theorem okG_l_alike (T : Txt d mg z) : (n : Nat) → FnOk P w d.K mg base CX0 (n + 0) z.f_l_alike z.d_l_alike ["_law_found", "_law_due"] (spN_l_alike n d)
  | 0 => fnok_no fun vs H Q E h => no_l_alike h
  | n + 1 => by
    have GG := okG_l_alike T n
    have GN_l_alike := GG
    refine FnOk.mono (j := n + 0 + 1) ?_ (by omega)
    refine T.F_l_alike.ok sc_l_alike (fun vs H Q E h => by first | (obtain ⟨rfl, _⟩ := h; rfl) | (obtain ⟨_, rfl, _⟩ := h; rfl) | (obtain ⟨_, _, rfl, _⟩ := h; rfl) | (obtain ⟨_, _, _, rfl, _⟩ := h; rfl) | (obtain ⟨_, _, _, _, rfl, _⟩ := h; rfl) | (obtain ⟨_, _, _, _, _, rfl, _⟩ := h; rfl) | (obtain ⟨_, _, _, _, _, _, rfl, _⟩ := h; rfl) | (obtain ⟨_, _, _, _, _, _, _, rfl, _⟩ := h; rfl) | (obtain ⟨_, _, _, _, _, _, _, _, rfl, _⟩ := h; rfl) | (obtain ⟨_, _, _, _, _, _, _, _, _, rfl, _⟩ := h; rfl) | (obtain ⟨_, _, _, _, _, _, _, _, _, _, rfl, _⟩ := h; rfl)) (fun cdv A outer s H vs Q E hr h => ⟨t_l_alike n d, ?_, pure_l_alike  h⟩)
    exact (pss_cons (ps_if (pt_val (pe_callB call_isi (by rfl) T.b_isinstance (by decide +kernel) (pa_cons (pv 1) (pa_cons (pe_bltn (v := .ty "int") (by rfl) T.b_int (by decide +kernel) rfl) pa_nil)))) (pss_one (ps_ret (pe_and (pe_callB call_isi (by rfl) T.b_isinstance (by decide +kernel) (pa_cons (pv 0) (pa_cons (pe_bltn (v := .ty "int") (by rfl) T.b_int (by decide +kernel) rfl) pa_nil))) (pe_and (pe_not (pe_callB call_isi (by rfl) T.b_isinstance (by decide +kernel) (pa_cons (pv 0) (pa_cons (pe_bltn (v := .ty "bool") (by rfl) T.b_bool (by decide +kernel) rfl) pa_nil)))) (pe_one (pe_cmpR op_eq (pv 0) (pv 1) (nomark _))))))) pss_nil)
        (pss_cons (ps_if (pt_val (pe_callB call_isi (by rfl) T.b_isinstance (by decide +kernel) (pa_cons (pv 1) (pa_cons (pe_bltn (v := .ty "str") (by rfl) T.b_str (by decide +kernel) rfl) pa_nil)))) (pss_one (ps_ret (pe_and (pe_callB call_isi (by rfl) T.b_isinstance (by decide +kernel) (pa_cons (pv 0) (pa_cons (pe_bltn (v := .ty "str") (by rfl) T.b_str (by decide +kernel) rfl) pa_nil))) (pe_one (pe_cmpR op_eq (pv 0) (pv 1) (nomark _)))))) pss_nil)
        (pss_cons (ps_if (pt_val (pe_callB call_isi (by rfl) T.b_isinstance (by decide +kernel) (pa_cons (pv 1) (pa_cons (pe_bltn (v := .ty "tuple") (by rfl) T.b_tuple (by decide +kernel) rfl) pa_nil)))) (pss_one (ps_if (pt_not (pt_val (pe_callB call_isi (by rfl) T.b_isinstance (by decide +kernel) (pa_cons (pv 0) (pa_cons (pe_bltn (v := .ty "tuple") (by rfl) T.b_tuple (by decide +kernel) rfl) pa_nil))))) (pss_one (ps_ret pe_bl)) pss_nil)) (pss_one (ps_if (pt_not (pt_val (pe_callB call_isi (by rfl) T.b_isinstance (by decide +kernel) (pa_cons (pv 0) (pa_cons (pe_bltn (v := .ty "list") (by rfl) T.b_list (by decide +kernel) rfl) pa_nil))))) (pss_one (ps_ret pe_bl)) pss_nil)))
        (pss_cons (ps_if (pt_cmpR op_ne (pe_callB call_len_seq (by rfl) T.b_len (by decide +kernel) (pa_cons (pv 0) pa_nil)) (pe_callB call_len_seq (by rfl) T.b_len (by decide +kernel) (pa_cons (pv 1) pa_nil)) (nomark _)) (pss_one (ps_ret pe_bl)) pss_nil)
        (pss_cons (ps_for PassesOwn.never rfl (pi_range1 rfl T.b_range (pa_cons (pe_callB call_len_seq (by rfl) T.b_len (by decide +kernel) (pa_cons (pv 1) pa_nil)) pa_nil)) (pg_name (i := 2) sc_l_alike.nd rfl (Or.inl rfl)) (pss_one (ps_if (pt_not (pt_val (pe_call GN_l_alike (hr.mono (by omega)) rfl T.m_l_alike T.F_l_alike.kp T.B_l_alike .nil pass0 (pa_cons (pe_ix ix_seq (pv 0) (pv 2) (fun _ _ => rfl)) (pa_cons (pe_ix ix_seq (pv 1) (pv 2) (fun _ _ => rfl)) pa_nil))))) (pss_one (ps_ret pe_bl)) pss_nil)))
        (pss_one (ps_ret pe_bl)))))))
theorem ok_l_alike (T : Txt d mg z) : FnOk P w d.K mg base CX0 (8) z.f_l_alike z.d_l_alike ["_law_found", "_law_due"] (sp_l_alike d) := okG_l_alike T 8
theorem ok_l_own (T : Txt d mg z) : FnOk P w d.K mg base CX0 1 z.f_l_own z.d_l_own ["_law_tiers", "_law_box"] (sp_l_own d) := by
  refine T.F_l_own.ok sc_l_own (fun vs H Q E h => by first | (obtain ⟨rfl, _⟩ := h; rfl) | (obtain ⟨_, rfl, _⟩ := h; rfl) | (obtain ⟨_, _, rfl, _⟩ := h; rfl) | (obtain ⟨_, _, _, rfl, _⟩ := h; rfl) | (obtain ⟨_, _, _, _, rfl, _⟩ := h; rfl) | (obtain ⟨_, _, _, _, _, rfl, _⟩ := h; rfl) | (obtain ⟨_, _, _, _, _, _, rfl, _⟩ := h; rfl) | (obtain ⟨_, _, _, _, _, _, _, rfl, _⟩ := h; rfl) | (obtain ⟨_, _, _, _, _, _, _, _, rfl, _⟩ := h; rfl) | (obtain ⟨_, _, _, _, _, _, _, _, _, rfl, _⟩ := h; rfl) | (obtain ⟨_, _, _, _, _, _, _, _, _, _, rfl, _⟩ := h; rfl)) (fun cdv A outer s H vs Q E hr h => ⟨t_l_own d, ?_, pure_l_own  h⟩)
  have hu := hu_of hr
  exact (pss_cons (ps_set (i := 2) sc_l_own.nd rfl (Or.inl rfl) pe_non)
      (pss_cons (ps_for PassesOwn.never rfl (pi_list (pv 0)) (pg_name (i := 3) sc_l_own.nd rfl (Or.inl rfl)) (pss_one (ps_if (pt_cmp (pc_din hu (pv 1) (pv 3))) (pss_one (ps_set (i := 2) sc_l_own.nd rfl (Or.inl rfl) (pe_dget hu (pv 3) (pv 1) (fun _ _ => rfl)))) pss_nil)))
      (pss_one (ps_ret (pv 2)))))
theorem ok_l_done (T : Txt d mg z) : FnOk P w d.K mg base CX0 2 z.f_l_done z.d_l_done ["_law_log", "_law_tiers", "_law_mixed_here", "_law_cell", "_law_boxes"] (sp_l_done d) := by
  have G_Log_write := ok_Log_write (P := P) (w := w) (base := base) T
  have G_Log_begin := ok_Log_begin (P := P) (w := w) (base := base) T
  have G_Log_settle := ok_Log_settle (P := P) (w := w) (base := base) T
  have G_Log_drop := ok_Log_drop (P := P) (w := w) (base := base) T
  refine T.F_l_done.ok sc_l_done (fun vs H Q E h => by first | (obtain ⟨rfl, _⟩ := h; rfl) | (obtain ⟨_, rfl, _⟩ := h; rfl) | (obtain ⟨_, _, rfl, _⟩ := h; rfl) | (obtain ⟨_, _, _, rfl, _⟩ := h; rfl) | (obtain ⟨_, _, _, _, rfl, _⟩ := h; rfl) | (obtain ⟨_, _, _, _, _, rfl, _⟩ := h; rfl) | (obtain ⟨_, _, _, _, _, _, rfl, _⟩ := h; rfl) | (obtain ⟨_, _, _, _, _, _, _, rfl, _⟩ := h; rfl) | (obtain ⟨_, _, _, _, _, _, _, _, rfl, _⟩ := h; rfl) | (obtain ⟨_, _, _, _, _, _, _, _, _, rfl, _⟩ := h; rfl) | (obtain ⟨_, _, _, _, _, _, _, _, _, _, rfl, _⟩ := h; rfl)) (fun cdv A outer s H vs Q E hr h => ⟨t_l_done d, ?_, pure_l_done T.t_Log h⟩)
  have hu := hu_of hr
  exact (pss_cons (ps_set (i := 5) sc_l_done.nd rfl (Or.inl rfl) (pe_op op_mod (pv 2) pe_int))
      (pss_cons (ps_set (i := 6) sc_l_done.nd rfl (Or.inl rfl) (pe_op op_mod (pe_op op_fdiv (pv 2) pe_int) (pv 4)))
      (pss_one (ps_if (pt_cmpR o_lt (pv 5) pe_int (nomark _)) (pss_cons (ps_set (i := 7) sc_l_done.nd rfl (Or.inl rfl) (pe_ix ix_list (pe_lst (pa_cons pe_int (pa_cons (pe_op op_mod (pe_op op_fdiv (pv 2) pe_int) pe_int) (pa_cons (pe_op op_mod (pe_op op_mul (pv 3) pe_int) (pe_op op_pow pe_int pe_int)) (pa_cons (pe_op op_sub (pe_op op_pow pe_int pe_int) pe_int) pa_nil))))) (pe_op op_mod (pe_op op_fdiv (pv 2) pe_int) pe_int) (fun _ _ => rfl)))
      (pss_cons (ps_expr (pe_meth (pv 0) T.t_Log.cl T.M_Log_write G_Log_write (hr.mono (by omega)) T.B_Log_write .nil pass0 (pa_cons (pv 6) (pa_cons (pv 7) pa_nil))))
      (pss_one (ps_dput hu (pe_ix ix_list (pv 1) (pe_un un_neg pe_int) (fun _ _ => rfl)) (pv 6) (pv 7) rfl)))) (pss_one (ps_if (pt_cmpR o_lt (pv 5) pe_int (nomark _)) (pss_one (ps_if (pt_cmpR o_lt (pe_callB call_len_seq (by rfl) T.b_len (by decide +kernel) (pa_cons (pv 1) pa_nil)) pe_int (nomark _)) (pss_cons (ps_expr (pe_meth0 (pv 0) T.t_Log.cl T.M_Log_begin G_Log_begin (hr.mono (by omega)) T.B_Log_begin .nil pass0))
      (pss_one (ps_expr (pe_bm PySem.F.plainAttrs_list PySem.F.slot_list_append PySem.F.type_list_append mt_append (pv 1) (pa_cons pe_dnewK pa_nil))))) pss_nil)) (pss_one (ps_if (pt_cmpR o_gt (pe_callB call_len_seq (by rfl) T.b_len (by decide +kernel) (pa_cons (pv 1) pa_nil)) pe_int (nomark _)) (pss_cons (ps_set (i := 8) sc_l_done.nd rfl (Or.inl rfl) (pe_bm0 PySem.F.plainAttrs_list PySem.F.slot_list_pop PySem.F.type_list_pop mt_pop (pv 1)))
      (pss_one (ps_if (pt_cmpR op_eq (pv 5) pe_int (nomark _)) (pss_cons (ps_expr (pe_meth0 (pv 0) T.t_Log.cl T.M_Log_settle G_Log_settle (hr.mono (by omega)) T.B_Log_settle .nil pass0))
      (pss_one (ps_lock (ps_for PassesOwn.never rfl (pi_keys (pv 8)) (pg_name (i := 9) sc_l_done.nd rfl (Or.inl rfl)) (pss_one (ps_dput hu (pe_ix ix_list (pv 1) (pe_un un_neg pe_int) (fun _ _ => rfl)) (pv 9) (pe_dget hu (pv 8) (pv 9) (fun _ _ => rfl)) rfl)))))) (pss_one (ps_expr (pe_meth0 (pv 0) T.t_Log.cl T.M_Log_drop G_Log_drop (hr.mono (by omega)) T.B_Log_drop .nil pass0)))))) pss_nil))))))))
theorem ok_l_stands (T : Txt d mg z) : FnOk P w d.K mg base CX0 9 z.f_l_stands z.d_l_stands ["_law_log", "_law_tiers", "_law_box", "_law_turn"] (sp_l_stands d) := by
  have G_Log_own := ok_Log_own (P := P) (w := w) (base := base) T
  have G_l_own := ok_l_own (P := P) (w := w) (base := base) T
  have G_l_alike := ok_l_alike (P := P) (w := w) (base := base) T
  have G_Log_layers := ok_Log_layers (P := P) (w := w) (base := base) T
  have G_Log_wrote := ok_Log_wrote (P := P) (w := w) (base := base) T
  refine T.F_l_stands.ok sc_l_stands (fun vs H Q E h => by first | (obtain ⟨rfl, _⟩ := h; rfl) | (obtain ⟨_, rfl, _⟩ := h; rfl) | (obtain ⟨_, _, rfl, _⟩ := h; rfl) | (obtain ⟨_, _, _, rfl, _⟩ := h; rfl) | (obtain ⟨_, _, _, _, rfl, _⟩ := h; rfl) | (obtain ⟨_, _, _, _, _, rfl, _⟩ := h; rfl) | (obtain ⟨_, _, _, _, _, _, rfl, _⟩ := h; rfl) | (obtain ⟨_, _, _, _, _, _, _, rfl, _⟩ := h; rfl) | (obtain ⟨_, _, _, _, _, _, _, _, rfl, _⟩ := h; rfl) | (obtain ⟨_, _, _, _, _, _, _, _, _, rfl, _⟩ := h; rfl) | (obtain ⟨_, _, _, _, _, _, _, _, _, _, rfl, _⟩ := h; rfl)) (fun cdv A outer s H vs Q E hr h => ⟨t_l_stands d, ?_, pure_l_stands T.t_Log h⟩)
  have hu := hu_of hr
  exact (pss_cons (ps_for PassesOwn.never rfl (pi_range1 rfl T.b_range (pa_cons pe_int pa_nil)) (pg_name (i := 4) sc_l_stands.nd rfl (Or.inl rfl)) (pss_cons (ps_set (i := 5) sc_l_stands.nd rfl (Or.inl rfl) (pe_op op_mod (pe_op op_add (pv 4) (pv 3)) pe_int))
      (pss_cons (ps_if (pt_cmpR op_eq (pv 5) pe_int (nomark _)) (pss_cons (ps_set (i := 6) sc_l_stands.nd rfl (Or.inl rfl) (pe_meth (pv 0) T.t_Log.cl T.M_Log_own G_Log_own (hr.mono (by omega)) T.B_Log_own .nil pass0 (pa_cons (pv 2) pa_nil)))
      (pss_cons (ps_set (i := 7) sc_l_stands.nd rfl (Or.inl rfl) (pe_call G_l_own (hr.mono (by omega)) rfl T.m_l_own T.F_l_own.kp T.B_l_own .nil pass0 (pa_cons (pv 1) (pa_cons (pv 2) pa_nil))))
      (pss_cons (ps_if (PW.pt (pw_and (pt_cmpR op_isN (pv 7) pe_non (nomark _)) (pw_and1 (pt_cmpR op_notN (pv 6) pe_non (nomark _))))) (pss_one (ps_ret pe_bl)) pss_nil)
      (pss_one (ps_if (PW.pt (pw_and (pt_cmpR op_notN (pv 7) pe_non (nomark _)) (pw_and1 (pt_not (pt_val (pe_call G_l_alike (hr.mono (by omega)) rfl T.m_l_alike T.F_l_alike.kp T.B_l_alike .nil pass0 (pa_cons (pv 6) (pa_cons (pv 7) pa_nil)))))))) (pss_one (ps_ret pe_bl)) pss_nil))))) pss_nil)
      (pss_cons (ps_if (PW.pt (pw_and (pt_cmpR op_eq (pv 5) pe_int (nomark _)) (pw_and1 (pt_not (pt_val (pe_call G_l_alike (hr.mono (by omega)) rfl T.m_l_alike T.F_l_alike.kp T.B_l_alike .nil pass0 (pa_cons (pe_meth0 (pv 0) T.t_Log.cl T.M_Log_layers G_Log_layers (hr.mono (by omega)) T.B_Log_layers .nil pass0) (pa_cons (pe_callB call_len_seq (by rfl) T.b_len (by decide +kernel) (pa_cons (pv 1) pa_nil)) pa_nil)))))))) (pss_one (ps_ret pe_bl)) pss_nil)
      (pss_cons (ps_setLc (i := 7) (own := [("_law_at", 8)]) rfl sc_l_stands.nd rfl rfl (sw_true rfl rfl rfl (by decide +kernel)) (pi_list (pe_callB (call_sortedDI rfl) (by rfl) T.b_sorted (by decide +kernel) (pa_cons (pe_ix ix_list (pv 1) pe_int (fun _ _ => rfl)) pa_nil))) (blkOk_by (own := [("_law_at", 8)]) (N := N_l_stands) (sc := defScope s_l_stands) (by decide +kernel)) (fun _ _ _ _ _ => (pg_name (i := 8) sc_l_stands.nd rfl (Or.inl rfl))) (fun _ _ _ _ _ => pts_nil) (fun _ _ _ _ _ => (pe_tup (pa_cons (pv 8) (pa_cons (pe_dget hu (pe_ix ix_list (pv 1) pe_int (fun _ _ => rfl)) (pv 8) (fun _ _ => rfl)) pa_nil)))))
      (pss_one (ps_if (PW.pt (pw_and (pt_cmpR op_eq (pv 5) pe_int (nomark _)) (pw_and1 (pt_not (pt_val (pe_call G_l_alike (hr.mono (by omega)) rfl T.m_l_alike T.F_l_alike.kp T.B_l_alike .nil pass0 (pa_cons (pe_meth0 (pv 0) T.t_Log.cl T.M_Log_wrote G_Log_wrote (hr.mono (by omega)) T.B_Log_wrote .nil pass0) (pa_cons (pv 7) pa_nil)))))))) (pss_one (ps_ret pe_bl)) pss_nil)))))))
      (pss_one (ps_ret pe_bl)))
theorem ok_law (T : Txt d mg z) : FnOk P w d.K mg base CX0 10 z.f_law z.d_law ["_law_script"] (sp_law d) := by
  have G_Log_init := ok_Log_init (P := P) (w := w) (base := base) T
  have G_l_cell_at := ok_l_cell_at (P := P) (w := w) (base := base) T
  have G_l_mixed := ok_l_mixed (P := P) (w := w) (base := base) T
  have G_l_done := ok_l_done (P := P) (w := w) (base := base) T
  have G_l_stands := ok_l_stands (P := P) (w := w) (base := base) T
  have G_Log_wrote := ok_Log_wrote (P := P) (w := w) (base := base) T
  have G_Log_saw := ok_Log_saw (P := P) (w := w) (base := base) T
  refine T.F_law.ok sc_law (fun vs H Q E h => by first | (obtain ⟨rfl, _⟩ := h; rfl) | (obtain ⟨_, rfl, _⟩ := h; rfl) | (obtain ⟨_, _, rfl, _⟩ := h; rfl) | (obtain ⟨_, _, _, rfl, _⟩ := h; rfl) | (obtain ⟨_, _, _, _, rfl, _⟩ := h; rfl) | (obtain ⟨_, _, _, _, _, rfl, _⟩ := h; rfl) | (obtain ⟨_, _, _, _, _, _, rfl, _⟩ := h; rfl) | (obtain ⟨_, _, _, _, _, _, _, rfl, _⟩ := h; rfl) | (obtain ⟨_, _, _, _, _, _, _, _, rfl, _⟩ := h; rfl) | (obtain ⟨_, _, _, _, _, _, _, _, _, rfl, _⟩ := h; rfl) | (obtain ⟨_, _, _, _, _, _, _, _, _, _, rfl, _⟩ := h; rfl)) (fun cdv A outer s H vs Q E hr h => ⟨t_law d, ?_, pure_law T.t_Log h⟩)
  exact (pss_cons (ps_set (i := 1) sc_law.nd rfl (Or.inl rfl) (pe_lst (pa_cons (pe_make0 T.K_Log G_Log_init (hr.mono (by omega)) rfl T.g_Log T.B_Log_init .nil pass0) (pa_cons (pe_make0 T.K_Log G_Log_init (hr.mono (by omega)) rfl T.g_Log T.B_Log_init .nil pass0) pa_nil))))
      (pss_cons (ps_set (i := 2) sc_law.nd rfl (Or.inl rfl) (pe_lst (pa_cons (pe_lst (pa_cons pe_dnewK pa_nil)) (pa_cons (pe_lst (pa_cons pe_dnewK pa_nil)) pa_nil))))
      (pss_cons (ps_set (i := 3) sc_law.nd rfl (Or.inl rfl) (pe_ix ix_list (pe_lst (pa_cons pe_int (pa_cons pe_int pa_nil))) (pe_op op_mod (pe_call G_l_cell_at (hr.mono (by omega)) rfl T.m_l_cell_at T.F_l_cell_at.kp T.B_l_cell_at .nil pass0 (pa_cons (pv 0) (pa_cons pe_int pa_nil))) pe_int) (fun _ _ => rfl)))
      (pss_cons (ps_set (i := 4) sc_law.nd rfl (Or.inl rfl) (pe_lst pa_nil))
      (pss_cons (ps_for PassesOwn.never rfl (pi_list (pe_slice sl_list (pv 0) po_none (po_some pe_int))) (pg_name (i := 5) sc_law.nd rfl (Or.inl rfl)) (pss_cons (ps_set (i := 6) sc_law.nd rfl (Or.inl rfl) (pe_call G_l_mixed (hr.mono (by omega)) rfl T.m_l_mixed T.F_l_mixed.kp T.B_l_mixed .nil pass0 (pa_cons (pv 5) pa_nil)))
      (pss_cons (ps_set (i := 7) sc_law.nd rfl (Or.inl rfl) (pe_op op_mod (pv 6) pe_int))
      (pss_cons (ps_set (i := 6) sc_law.nd rfl (Or.inl rfl) (pe_op op_fdiv (pv 6) pe_int))
      (pss_cons (ps_expr (pe_call G_l_done (hr.mono (by omega)) rfl T.m_l_done T.F_l_done.kp T.B_l_done .nil pass0 (pa_cons (pe_ix ix_list (pv 1) (pv 7) (fun _ _ => rfl)) (pa_cons (pe_ix ix_list (pv 2) (pv 7) (fun _ _ => rfl)) (pa_cons (pv 6) (pa_cons (pv 5) (pa_cons (pv 3) pa_nil)))))))
      (pss_cons (ps_for PassesOwn.never rfl (pi_list (pe_lst (pa_cons (pe_op op_mod (pe_op op_fdiv (pv 6) pe_int) (pv 3)) (pa_cons (pe_op op_mod (pe_op op_fdiv (pv 6) pe_int) (pv 3)) pa_nil)))) (pg_name (i := 8) sc_law.nd rfl (Or.inl rfl)) (pss_cons (ps_if (pt_not (pt_val (pe_call G_l_stands (hr.mono (by omega)) rfl T.m_l_stands T.F_l_stands.kp T.B_l_stands .nil pass0 (pa_cons (pe_ix ix_list (pv 1) (pv 7) (fun _ _ => rfl)) (pa_cons (pe_ix ix_list (pv 2) (pv 7) (fun _ _ => rfl)) (pa_cons (pv 8) (pa_cons (pe_op op_mod (pv 6) pe_int) pa_nil))))))) (pss_one (ps_ret pe_bl)) pss_nil)
      (pss_one (ps_if (pt_not (pt_val (pe_call G_l_stands (hr.mono (by omega)) rfl T.m_l_stands T.F_l_stands.kp T.B_l_stands .nil pass0 (pa_cons (pe_ix ix_list (pv 1) (pe_op op_sub pe_int (pv 7)) (fun _ _ => rfl)) (pa_cons (pe_ix ix_list (pv 2) (pe_op op_sub pe_int (pv 7)) (fun _ _ => rfl)) (pa_cons (pv 8) (pa_cons (pe_op op_mod (pe_op op_fdiv (pv 6) pe_int) pe_int) pa_nil))))))) (pss_one (ps_ret pe_bl)) pss_nil))))
      (pss_cons (ps_set (i := 9) sc_law.nd rfl (Or.inl rfl) (pe_meth0 (pe_ix ix_list (pv 1) (pv 7) (fun _ _ => rfl)) T.t_Log.cl T.M_Log_wrote G_Log_wrote (hr.mono (by omega)) T.B_Log_wrote .nil pass0))
      (pss_cons (ps_expr (pe_bm PySem.F.plainAttrs_list PySem.F.slot_list_append PySem.F.type_list_append mt_append (pv 4) (pa_cons (pe_tup (pa_cons (pv 9) (pa_cons (pe_callTy call_list_of (by rfl) T.b_list (by decide +kernel) (pa_cons (pv 9) pa_nil)) pa_nil))) pa_nil)))
      (pss_one (ps_expr (pe_bm PySem.F.plainAttrs_list PySem.F.slot_list_append PySem.F.type_list_append mt_append (pe_meth0 (pe_ix ix_list (pv 1) (pv 7) (fun _ _ => rfl)) T.t_Log.cl T.M_Log_wrote G_Log_wrote (hr.mono (by omega)) T.B_Log_wrote .nil pass0) (pa_cons (pe_tup (pa_cons pe_int (pa_cons pe_int pa_nil))) pa_nil))))))))))))
      (pss_cons (ps_for PassesOwn.never rfl (pi_list (pv 4)) (pg_tup rfl (pgs_cons (pg_name (i := 9) sc_law.nd rfl (Or.inl rfl)) (pgs_cons (pg_name (i := 10) sc_law.nd rfl (Or.inl rfl)) pgs_nil))) (pss_one (ps_if (pt_cmpR (op_neD hr.units) (pv 9) (pv 10) (nomark _)) (pss_one (ps_ret pe_bl)) pss_nil)))
      (pss_one (ps_ret (pe_and (pe_cmpR (op_eqD hr.units) (pe_meth0 (pe_ix ix_list (pv 1) pe_int (fun _ _ => rfl)) T.t_Log.cl T.M_Log_saw G_Log_saw (hr.mono (by omega)) T.B_Log_saw .nil pass0) (pe_lst pa_nil) (nomark _)) (pe_one (pe_cmpR (op_eqD hr.units) (pe_meth0 (pe_ix ix_list (pv 1) pe_int (fun _ _ => rfl)) T.t_Log.cl T.M_Log_saw G_Log_saw (hr.mono (by omega)) T.B_Log_saw .nil pass0) (pe_lst pa_nil) (nomark _))))))))))))
end
theorem all_mk {P : Program} {w : World} {K : PySem.W.Frag} {h : Heap} {mg : Str → Option Value} {fa : Addr} (X : K.In h) (G : h.Ns mainGlobals mg) (hfa : mg "law" = some (.ref fa))
    {f_by_boxes f_Log_init f_Log_write f_Log_own f_Log_begin f_Log_settle f_Log_drop f_Log_layers f_Log_saw f_Log_wrote f_l_cell_at f_l_mixed f_l_alike f_l_own f_l_done f_l_stands f_law c_Log : Addr} {oc_by_boxes kV_by_boxes dc_by_boxes pm_by_boxes cd_by_boxes ct_by_boxes oc_Log_init kV_Log_init dc_Log_init pm_Log_init cd_Log_init ct_Log_init oc_Log_write kV_Log_write dc_Log_write pm_Log_write cd_Log_write ct_Log_write oc_Log_own kV_Log_own dc_Log_own pm_Log_own cd_Log_own ct_Log_own oc_Log_begin kV_Log_begin dc_Log_begin pm_Log_begin cd_Log_begin ct_Log_begin oc_Log_settle kV_Log_settle dc_Log_settle pm_Log_settle cd_Log_settle ct_Log_settle oc_Log_drop kV_Log_drop dc_Log_drop pm_Log_drop cd_Log_drop ct_Log_drop oc_Log_layers kV_Log_layers dc_Log_layers pm_Log_layers cd_Log_layers ct_Log_layers oc_Log_saw kV_Log_saw dc_Log_saw pm_Log_saw cd_Log_saw ct_Log_saw oc_Log_wrote kV_Log_wrote dc_Log_wrote pm_Log_wrote cd_Log_wrote ct_Log_wrote oc_l_cell_at kV_l_cell_at dc_l_cell_at pm_l_cell_at cd_l_cell_at ct_l_cell_at oc_l_mixed kV_l_mixed dc_l_mixed pm_l_mixed cd_l_mixed ct_l_mixed oc_l_alike kV_l_alike dc_l_alike pm_l_alike cd_l_alike ct_l_alike oc_l_own kV_l_own dc_l_own pm_l_own cd_l_own ct_l_own oc_l_done kV_l_done dc_l_done pm_l_done cd_l_done ct_l_done oc_l_stands kV_l_stands dc_l_stands pm_l_stands cd_l_stands ct_l_stands oc_law kV_law dc_law pm_law cd_law ct_law : Value} {od_by_boxes an_by_boxes od_Log_init an_Log_init od_Log_write an_Log_write od_Log_own an_Log_own od_Log_begin an_Log_begin od_Log_settle an_Log_settle od_Log_drop an_Log_drop od_Log_layers an_Log_layers od_Log_saw an_Log_saw od_Log_wrote an_Log_wrote od_l_cell_at an_l_cell_at od_l_mixed an_l_mixed od_l_alike an_l_alike od_l_own an_l_own od_l_done an_l_done od_l_stands an_l_stands od_law an_law : Option Addr} {sl_by_boxes sl_Log_init sl_Log_write sl_Log_own sl_Log_begin sl_Log_settle sl_Log_drop sl_Log_layers sl_Log_saw sl_Log_wrote sl_l_cell_at sl_l_mixed sl_l_alike sl_l_own sl_l_done sl_l_stands sl_law : Array (Option Value)}
    (a_by_boxes : PySem.W.nsIn K mainGlobals "by_boxes" = some (some (.ref f_by_boxes)))
    (l_by_boxes : K.lookup f_by_boxes = some ⟨oc_by_boxes, od_by_boxes, .func (PySem.W.fnOf "by_boxes" "by_boxes" (defArgs s_by_boxes) (defBody s_by_boxes) (defScope s_by_boxes) .none kV_by_boxes dc_by_boxes pm_by_boxes an_by_boxes cd_by_boxes ct_by_boxes), sl_by_boxes⟩)
    (cc_by_boxes : PySem.W.codeIn K cd_by_boxes "by_boxes" = true)
    (kk_by_boxes : PySem.W.keepIn K (.ref f_by_boxes) = true)
    (a_Log_init : PySem.W.findIn K (.ref c_Log) "__init__" = some (some (.ref f_Log_init)))
    (i_Log_init : PySem.W.isFn K (.ref f_Log_init) = true)
    (l_Log_init : K.lookup f_Log_init = some ⟨oc_Log_init, od_Log_init, .func (PySem.W.fnOf "__init__" "Log.__init__" (defArgs s_Log_init) (defBody s_Log_init) (defScope s_Log_init) .none kV_Log_init dc_Log_init pm_Log_init an_Log_init cd_Log_init ct_Log_init), sl_Log_init⟩)
    (cc_Log_init : PySem.W.codeIn K cd_Log_init "Log.__init__" = true)
    (kk_Log_init : PySem.W.keepIn K (.ref f_Log_init) = true)
    (a_Log_write : PySem.W.findIn K (.ref c_Log) "write" = some (some (.ref f_Log_write)))
    (i_Log_write : PySem.W.isFn K (.ref f_Log_write) = true)
    (l_Log_write : K.lookup f_Log_write = some ⟨oc_Log_write, od_Log_write, .func (PySem.W.fnOf "write" "Log.write" (defArgs s_Log_write) (defBody s_Log_write) (defScope s_Log_write) .none kV_Log_write dc_Log_write pm_Log_write an_Log_write cd_Log_write ct_Log_write), sl_Log_write⟩)
    (cc_Log_write : PySem.W.codeIn K cd_Log_write "Log.write" = true)
    (kk_Log_write : PySem.W.keepIn K (.ref f_Log_write) = true)
    (a_Log_own : PySem.W.findIn K (.ref c_Log) "own" = some (some (.ref f_Log_own)))
    (i_Log_own : PySem.W.isFn K (.ref f_Log_own) = true)
    (l_Log_own : K.lookup f_Log_own = some ⟨oc_Log_own, od_Log_own, .func (PySem.W.fnOf "own" "Log.own" (defArgs s_Log_own) (defBody s_Log_own) (defScope s_Log_own) .none kV_Log_own dc_Log_own pm_Log_own an_Log_own cd_Log_own ct_Log_own), sl_Log_own⟩)
    (cc_Log_own : PySem.W.codeIn K cd_Log_own "Log.own" = true)
    (kk_Log_own : PySem.W.keepIn K (.ref f_Log_own) = true)
    (a_Log_begin : PySem.W.findIn K (.ref c_Log) "begin" = some (some (.ref f_Log_begin)))
    (i_Log_begin : PySem.W.isFn K (.ref f_Log_begin) = true)
    (l_Log_begin : K.lookup f_Log_begin = some ⟨oc_Log_begin, od_Log_begin, .func (PySem.W.fnOf "begin" "Log.begin" (defArgs s_Log_begin) (defBody s_Log_begin) (defScope s_Log_begin) .none kV_Log_begin dc_Log_begin pm_Log_begin an_Log_begin cd_Log_begin ct_Log_begin), sl_Log_begin⟩)
    (cc_Log_begin : PySem.W.codeIn K cd_Log_begin "Log.begin" = true)
    (kk_Log_begin : PySem.W.keepIn K (.ref f_Log_begin) = true)
    (a_Log_settle : PySem.W.findIn K (.ref c_Log) "settle" = some (some (.ref f_Log_settle)))
    (i_Log_settle : PySem.W.isFn K (.ref f_Log_settle) = true)
    (l_Log_settle : K.lookup f_Log_settle = some ⟨oc_Log_settle, od_Log_settle, .func (PySem.W.fnOf "settle" "Log.settle" (defArgs s_Log_settle) (defBody s_Log_settle) (defScope s_Log_settle) .none kV_Log_settle dc_Log_settle pm_Log_settle an_Log_settle cd_Log_settle ct_Log_settle), sl_Log_settle⟩)
    (cc_Log_settle : PySem.W.codeIn K cd_Log_settle "Log.settle" = true)
    (kk_Log_settle : PySem.W.keepIn K (.ref f_Log_settle) = true)
    (a_Log_drop : PySem.W.findIn K (.ref c_Log) "drop" = some (some (.ref f_Log_drop)))
    (i_Log_drop : PySem.W.isFn K (.ref f_Log_drop) = true)
    (l_Log_drop : K.lookup f_Log_drop = some ⟨oc_Log_drop, od_Log_drop, .func (PySem.W.fnOf "drop" "Log.drop" (defArgs s_Log_drop) (defBody s_Log_drop) (defScope s_Log_drop) .none kV_Log_drop dc_Log_drop pm_Log_drop an_Log_drop cd_Log_drop ct_Log_drop), sl_Log_drop⟩)
    (cc_Log_drop : PySem.W.codeIn K cd_Log_drop "Log.drop" = true)
    (kk_Log_drop : PySem.W.keepIn K (.ref f_Log_drop) = true)
    (a_Log_layers : PySem.W.findIn K (.ref c_Log) "layers" = some (some (.ref f_Log_layers)))
    (i_Log_layers : PySem.W.isFn K (.ref f_Log_layers) = true)
    (l_Log_layers : K.lookup f_Log_layers = some ⟨oc_Log_layers, od_Log_layers, .func (PySem.W.fnOf "layers" "Log.layers" (defArgs s_Log_layers) (defBody s_Log_layers) (defScope s_Log_layers) .none kV_Log_layers dc_Log_layers pm_Log_layers an_Log_layers cd_Log_layers ct_Log_layers), sl_Log_layers⟩)
    (cc_Log_layers : PySem.W.codeIn K cd_Log_layers "Log.layers" = true)
    (kk_Log_layers : PySem.W.keepIn K (.ref f_Log_layers) = true)
    (a_Log_saw : PySem.W.findIn K (.ref c_Log) "saw" = some (some (.ref f_Log_saw)))
    (i_Log_saw : PySem.W.isFn K (.ref f_Log_saw) = true)
    (l_Log_saw : K.lookup f_Log_saw = some ⟨oc_Log_saw, od_Log_saw, .func (PySem.W.fnOf "saw" "Log.saw" (defArgs s_Log_saw) (defBody s_Log_saw) (defScope s_Log_saw) .none kV_Log_saw dc_Log_saw pm_Log_saw an_Log_saw cd_Log_saw ct_Log_saw), sl_Log_saw⟩)
    (cc_Log_saw : PySem.W.codeIn K cd_Log_saw "Log.saw" = true)
    (kk_Log_saw : PySem.W.keepIn K (.ref f_Log_saw) = true)
    (a_Log_wrote : PySem.W.findIn K (.ref c_Log) "wrote" = some (some (.ref f_Log_wrote)))
    (i_Log_wrote : PySem.W.isFn K (.ref f_Log_wrote) = true)
    (l_Log_wrote : K.lookup f_Log_wrote = some ⟨oc_Log_wrote, od_Log_wrote, .func (PySem.W.fnOf "wrote" "Log.wrote" (defArgs s_Log_wrote) (defBody s_Log_wrote) (defScope s_Log_wrote) .none kV_Log_wrote dc_Log_wrote pm_Log_wrote an_Log_wrote cd_Log_wrote ct_Log_wrote), sl_Log_wrote⟩)
    (cc_Log_wrote : PySem.W.codeIn K cd_Log_wrote "Log.wrote" = true)
    (kk_Log_wrote : PySem.W.keepIn K (.ref f_Log_wrote) = true)
    (a_l_cell_at : PySem.W.nsIn K mainGlobals "_law_cell_at" = some (some (.ref f_l_cell_at)))
    (l_l_cell_at : K.lookup f_l_cell_at = some ⟨oc_l_cell_at, od_l_cell_at, .func (PySem.W.fnOf "_law_cell_at" "_law_cell_at" (defArgs s_l_cell_at) (defBody s_l_cell_at) (defScope s_l_cell_at) .none kV_l_cell_at dc_l_cell_at pm_l_cell_at an_l_cell_at cd_l_cell_at ct_l_cell_at), sl_l_cell_at⟩)
    (cc_l_cell_at : PySem.W.codeIn K cd_l_cell_at "_law_cell_at" = true)
    (kk_l_cell_at : PySem.W.keepIn K (.ref f_l_cell_at) = true)
    (a_l_mixed : PySem.W.nsIn K mainGlobals "_law_mixed" = some (some (.ref f_l_mixed)))
    (l_l_mixed : K.lookup f_l_mixed = some ⟨oc_l_mixed, od_l_mixed, .func (PySem.W.fnOf "_law_mixed" "_law_mixed" (defArgs s_l_mixed) (defBody s_l_mixed) (defScope s_l_mixed) .none kV_l_mixed dc_l_mixed pm_l_mixed an_l_mixed cd_l_mixed ct_l_mixed), sl_l_mixed⟩)
    (cc_l_mixed : PySem.W.codeIn K cd_l_mixed "_law_mixed" = true)
    (kk_l_mixed : PySem.W.keepIn K (.ref f_l_mixed) = true)
    (a_l_alike : PySem.W.nsIn K mainGlobals "_law_alike" = some (some (.ref f_l_alike)))
    (l_l_alike : K.lookup f_l_alike = some ⟨oc_l_alike, od_l_alike, .func (PySem.W.fnOf "_law_alike" "_law_alike" (defArgs s_l_alike) (defBody s_l_alike) (defScope s_l_alike) .none kV_l_alike dc_l_alike pm_l_alike an_l_alike cd_l_alike ct_l_alike), sl_l_alike⟩)
    (cc_l_alike : PySem.W.codeIn K cd_l_alike "_law_alike" = true)
    (kk_l_alike : PySem.W.keepIn K (.ref f_l_alike) = true)
    (a_l_own : PySem.W.nsIn K mainGlobals "_law_own" = some (some (.ref f_l_own)))
    (l_l_own : K.lookup f_l_own = some ⟨oc_l_own, od_l_own, .func (PySem.W.fnOf "_law_own" "_law_own" (defArgs s_l_own) (defBody s_l_own) (defScope s_l_own) .none kV_l_own dc_l_own pm_l_own an_l_own cd_l_own ct_l_own), sl_l_own⟩)
    (cc_l_own : PySem.W.codeIn K cd_l_own "_law_own" = true)
    (kk_l_own : PySem.W.keepIn K (.ref f_l_own) = true)
    (a_l_done : PySem.W.nsIn K mainGlobals "_law_done" = some (some (.ref f_l_done)))
    (l_l_done : K.lookup f_l_done = some ⟨oc_l_done, od_l_done, .func (PySem.W.fnOf "_law_done" "_law_done" (defArgs s_l_done) (defBody s_l_done) (defScope s_l_done) .none kV_l_done dc_l_done pm_l_done an_l_done cd_l_done ct_l_done), sl_l_done⟩)
    (cc_l_done : PySem.W.codeIn K cd_l_done "_law_done" = true)
    (kk_l_done : PySem.W.keepIn K (.ref f_l_done) = true)
    (a_l_stands : PySem.W.nsIn K mainGlobals "_law_stands" = some (some (.ref f_l_stands)))
    (l_l_stands : K.lookup f_l_stands = some ⟨oc_l_stands, od_l_stands, .func (PySem.W.fnOf "_law_stands" "_law_stands" (defArgs s_l_stands) (defBody s_l_stands) (defScope s_l_stands) .none kV_l_stands dc_l_stands pm_l_stands an_l_stands cd_l_stands ct_l_stands), sl_l_stands⟩)
    (cc_l_stands : PySem.W.codeIn K cd_l_stands "_law_stands" = true)
    (kk_l_stands : PySem.W.keepIn K (.ref f_l_stands) = true)
    (a_law : PySem.W.nsIn K mainGlobals "law" = some (some (.ref f_law)))
    (l_law : K.lookup f_law = some ⟨oc_law, od_law, .func (PySem.W.fnOf "law" "law" (defArgs s_law) (defBody s_law) (defScope s_law) .none kV_law dc_law pm_law an_law cd_law ct_law), sl_law⟩)
    (cc_law : PySem.W.codeIn K cd_law "law" = true)
    (kk_law : PySem.W.keepIn K (.ref f_law) = true)
    (b_bool : PySem.W.nsIn K mainGlobals "bool" = some none)
    (b_int : PySem.W.nsIn K mainGlobals "int" = some none)
    (b_isinstance : PySem.W.nsIn K mainGlobals "isinstance" = some none)
    (b_len : PySem.W.nsIn K mainGlobals "len" = some none)
    (b_list : PySem.W.nsIn K mainGlobals "list" = some none)
    (b_range : PySem.W.nsIn K mainGlobals "range" = some none)
    (b_reversed : PySem.W.nsIn K mainGlobals "reversed" = some none)
    (b_sorted : PySem.W.nsIn K mainGlobals "sorted" = some none)
    (b_str : PySem.W.nsIn K mainGlobals "str" = some none)
    (b_tuple : PySem.W.nsIn K mainGlobals "tuple" = some none)
    (g_Log : PySem.W.nsIn K mainGlobals "Log" = some (some (.ref c_Log)))
    (pg_Log : PySem.W.plainGet K c_Log Str.empty = true)
    (hd_Log : PySem.W.hasDictIn K c_Log = true)
    (po_Log : PySem.W.plainOver K c_Log = true)
    (sa_Log : PySem.W.findIn K (.ref c_Log) "__setattr__" = some (some (.builtin "object.__setattr__")))
    (mk_Log : PySem.W.makesIn K c_Log = true)
    (kc_Log : PySem.W.keepIn K (.ref c_Log) = true)
    (ntiers_Log : PySem.W.findIn K (.ref c_Log) "tiers" = some none)
    (nseen_Log : PySem.W.findIn K (.ref c_Log) "seen" = some none)
    : ∃ fd : FuncData, (∀ (s : Shared) (v : Value), BindsTo s fd ⟨[v], []⟩ [("_law_script", v)]) ∧ ∀ base : Heap, K.In base → base.Ns mainGlobals mg → FnOk P w K mg base CX0 10 fa fd ["_law_script"] (spLaw K) := by
  have e := hfa.symm.trans (PySem.W.mg_of X G a_law)
  cases e
  have F_by_boxes := fun_mk (st := s_by_boxes) l_by_boxes cc_by_boxes kk_by_boxes
  have F_Log_init := fun_mk (st := s_Log_init) l_Log_init cc_Log_init kk_Log_init
  have F_Log_write := fun_mk (st := s_Log_write) l_Log_write cc_Log_write kk_Log_write
  have F_Log_own := fun_mk (st := s_Log_own) l_Log_own cc_Log_own kk_Log_own
  have F_Log_begin := fun_mk (st := s_Log_begin) l_Log_begin cc_Log_begin kk_Log_begin
  have F_Log_settle := fun_mk (st := s_Log_settle) l_Log_settle cc_Log_settle kk_Log_settle
  have F_Log_drop := fun_mk (st := s_Log_drop) l_Log_drop cc_Log_drop kk_Log_drop
  have F_Log_layers := fun_mk (st := s_Log_layers) l_Log_layers cc_Log_layers kk_Log_layers
  have F_Log_saw := fun_mk (st := s_Log_saw) l_Log_saw cc_Log_saw kk_Log_saw
  have F_Log_wrote := fun_mk (st := s_Log_wrote) l_Log_wrote cc_Log_wrote kk_Log_wrote
  have F_l_cell_at := fun_mk (st := s_l_cell_at) l_l_cell_at cc_l_cell_at kk_l_cell_at
  have F_l_mixed := fun_mk (st := s_l_mixed) l_l_mixed cc_l_mixed kk_l_mixed
  have F_l_alike := fun_mk (st := s_l_alike) l_l_alike cc_l_alike kk_l_alike
  have F_l_own := fun_mk (st := s_l_own) l_l_own cc_l_own kk_l_own
  have F_l_done := fun_mk (st := s_l_done) l_l_done cc_l_done kk_l_done
  have F_l_stands := fun_mk (st := s_l_stands) l_l_stands cc_l_stands kk_l_stands
  have F_law := fun_mk (st := s_law) l_law cc_law kk_law
  let d : Ad := { K := K, cLog := c_Log }
  have T : Txt d mg { f_by_boxes := f_by_boxes, d_by_boxes := _, f_Log_init := f_Log_init, d_Log_init := _, f_Log_write := f_Log_write, d_Log_write := _, f_Log_own := f_Log_own, d_Log_own := _, f_Log_begin := f_Log_begin, d_Log_begin := _, f_Log_settle := f_Log_settle, d_Log_settle := _, f_Log_drop := f_Log_drop, d_Log_drop := _, f_Log_layers := f_Log_layers, d_Log_layers := _, f_Log_saw := f_Log_saw, d_Log_saw := _, f_Log_wrote := f_Log_wrote, d_Log_wrote := _, f_l_cell_at := f_l_cell_at, d_l_cell_at := _, f_l_mixed := f_l_mixed, d_l_mixed := _, f_l_alike := f_l_alike, d_l_alike := _, f_l_own := f_l_own, d_l_own := _, f_l_done := f_l_done, d_l_done := _, f_l_stands := f_l_stands, d_l_stands := _, f_law := fa, d_law := _ } :=
    { F_by_boxes := F_by_boxes
      B_by_boxes := F_by_boxes.binds (ps := ["found"]) fun _ _ _ _ _ _ us hl => match us, hl with | [_], _ => rfl
      m_by_boxes := PySem.W.mg_of X G a_by_boxes
      F_Log_init := F_Log_init
      B_Log_init := F_Log_init.binds (ps := ["self"]) fun _ _ _ _ _ _ us hl => match us, hl with | [_], _ => rfl
      K_Log := ⟨mk_Log, a_Log_init, i_Log_init, kc_Log⟩
      F_Log_write := F_Log_write
      B_Log_write := F_Log_write.binds (ps := ["self", "box", "number"]) fun _ _ _ _ _ _ us hl => match us, hl with | [_, _, _], _ => rfl
      M_Log_write := ⟨a_Log_write, i_Log_write, kk_Log_write⟩
      F_Log_own := F_Log_own
      B_Log_own := F_Log_own.binds (ps := ["self", "box"]) fun _ _ _ _ _ _ us hl => match us, hl with | [_, _], _ => rfl
      M_Log_own := ⟨a_Log_own, i_Log_own, kk_Log_own⟩
      F_Log_begin := F_Log_begin
      B_Log_begin := F_Log_begin.binds (ps := ["self"]) fun _ _ _ _ _ _ us hl => match us, hl with | [_], _ => rfl
      M_Log_begin := ⟨a_Log_begin, i_Log_begin, kk_Log_begin⟩
      F_Log_settle := F_Log_settle
      B_Log_settle := F_Log_settle.binds (ps := ["self"]) fun _ _ _ _ _ _ us hl => match us, hl with | [_], _ => rfl
      M_Log_settle := ⟨a_Log_settle, i_Log_settle, kk_Log_settle⟩
      F_Log_drop := F_Log_drop
      B_Log_drop := F_Log_drop.binds (ps := ["self"]) fun _ _ _ _ _ _ us hl => match us, hl with | [_], _ => rfl
      M_Log_drop := ⟨a_Log_drop, i_Log_drop, kk_Log_drop⟩
      F_Log_layers := F_Log_layers
      B_Log_layers := F_Log_layers.binds (ps := ["self"]) fun _ _ _ _ _ _ us hl => match us, hl with | [_], _ => rfl
      M_Log_layers := ⟨a_Log_layers, i_Log_layers, kk_Log_layers⟩
      F_Log_saw := F_Log_saw
      B_Log_saw := F_Log_saw.binds (ps := ["self"]) fun _ _ _ _ _ _ us hl => match us, hl with | [_], _ => rfl
      M_Log_saw := ⟨a_Log_saw, i_Log_saw, kk_Log_saw⟩
      F_Log_wrote := F_Log_wrote
      B_Log_wrote := F_Log_wrote.binds (ps := ["self"]) fun _ _ _ _ _ _ us hl => match us, hl with | [_], _ => rfl
      M_Log_wrote := ⟨a_Log_wrote, i_Log_wrote, kk_Log_wrote⟩
      F_l_cell_at := F_l_cell_at
      B_l_cell_at := F_l_cell_at.binds (ps := ["_law_script", "_law_k"]) fun _ _ _ _ _ _ us hl => match us, hl with | [_, _], _ => rfl
      m_l_cell_at := PySem.W.mg_of X G a_l_cell_at
      F_l_mixed := F_l_mixed
      B_l_mixed := F_l_mixed.binds (ps := ["_law_cell"]) fun _ _ _ _ _ _ us hl => match us, hl with | [_], _ => rfl
      m_l_mixed := PySem.W.mg_of X G a_l_mixed
      F_l_alike := F_l_alike
      B_l_alike := F_l_alike.binds (ps := ["_law_found", "_law_due"]) fun _ _ _ _ _ _ us hl => match us, hl with | [_, _], _ => rfl
      m_l_alike := PySem.W.mg_of X G a_l_alike
      F_l_own := F_l_own
      B_l_own := F_l_own.binds (ps := ["_law_tiers", "_law_box"]) fun _ _ _ _ _ _ us hl => match us, hl with | [_, _], _ => rfl
      m_l_own := PySem.W.mg_of X G a_l_own
      F_l_done := F_l_done
      B_l_done := F_l_done.binds (ps := ["_law_log", "_law_tiers", "_law_mixed_here", "_law_cell", "_law_boxes"]) fun _ _ _ _ _ _ us hl => match us, hl with | [_, _, _, _, _], _ => rfl
      m_l_done := PySem.W.mg_of X G a_l_done
      F_l_stands := F_l_stands
      B_l_stands := F_l_stands.binds (ps := ["_law_log", "_law_tiers", "_law_box", "_law_turn"]) fun _ _ _ _ _ _ us hl => match us, hl with | [_, _, _, _], _ => rfl
      m_l_stands := PySem.W.mg_of X G a_l_stands
      F_law := F_law
      B_law := F_law.binds (ps := ["_law_script"]) fun _ _ _ _ _ _ us hl => match us, hl with | [_], _ => rfl
      m_law := PySem.W.mg_of X G a_law
      b_bool := PySem.W.mg_none_of X G b_bool
      b_int := PySem.W.mg_none_of X G b_int
      b_isinstance := PySem.W.mg_none_of X G b_isinstance
      b_len := PySem.W.mg_none_of X G b_len
      b_list := PySem.W.mg_none_of X G b_list
      b_range := PySem.W.mg_none_of X G b_range
      b_reversed := PySem.W.mg_none_of X G b_reversed
      b_sorted := PySem.W.mg_none_of X G b_sorted
      b_str := PySem.W.mg_none_of X G b_str
      b_tuple := PySem.W.mg_none_of X G b_tuple
      g_Log := PySem.W.mg_of X G g_Log
      t_Log := ⟨⟨pg_Log, hd_Log, po_Log, sa_Log⟩, ntiers_Log, nseen_Log⟩ }
  exact ⟨PySem.W.fnOf "law" "law" (defArgs s_law) (defBody s_law) (defScope s_law) .none kV_law dc_law pm_law an_law cd_law ct_law, fun s v => .of_eq rfl, fun base _ _ => ok_law T⟩
theorem walk {l : PySem.W.OpenLaw} {q : Program} {loose : List Str} {XP : (Str → Option Value) → Heap → Prop} {YP : World → Heap → Prop} {d : DefRec} {K : Params → PySem.W.Frag} (hn : l.most = some 63) (hdf : d.params.defaults = [])
    (hY : ∀ (w : World) (h : Heap), YP w h → (K w.params).In h)
    (F : ∀ (w : World) (mg : Str → Option Value) (fa : Addr) (h : Heap), (K w.params).In h → h.Ns mainGlobals mg → mg d.name = some (.ref fa) →
      ∃ fd : FuncData, (∀ (s : Shared) (u : Value), BindsTo s fd ⟨[u], []⟩ [("_law_script", u)]) ∧ ∀ base : Heap, (K w.params).In base → base.Ns mainGlobals mg → FnOk l.prog w (K w.params) mg base CX0 10 fa fd ["_law_script"] (spLaw (K w.params))) :
    PySem.W.WalkO q loose XP YP l.row.toRowW d [] (fun f vs => PySem.call f vs) :=
  L2.walk_of (n := 63) (k := 10) (x := "_law_script") (CX := fun _ => CX0) (sp := fun w => spLaw (K w.params)) hn (by decide) hdf ⟨rfl, by decide, by decide⟩ hY F (fun _ _ a ns hl _ hS => ⟨a, ns, rfl, hS, hl, fun _ => rfl⟩) fun _ _ _ _ _ z => z
end Row
open PySem PySem.W PyProof.Rows
set_option maxRecDepth 100000 in
set_option maxHeartbeats 0 in
theorem PySem.Challenge.cw_retryhall_k14_log_layers_holds : PySem.Challenge.rw_retryhall_k14_log_layers.Holds := by
  w_on; o_law; k_head; (case hw => w_witness2)
  k_fill
  refine Row.walk (l := PySem.Challenge.rw_retryhall_k14_log_layers) rfl rfl (fun w h Y => PySem.W.kIn_of Y) ?F
  case F =>
    intro w mg fa h KX G hmg
    refine' Row.all_mk KX G hmg ?a_by_boxes ?l_by_boxes ?cc_by_boxes ?kk_by_boxes ?a_Log_init ?i_Log_init ?l_Log_init ?cc_Log_init ?kk_Log_init ?a_Log_write ?i_Log_write ?l_Log_write ?cc_Log_write ?kk_Log_write ?a_Log_own ?i_Log_own ?l_Log_own ?cc_Log_own ?kk_Log_own ?a_Log_begin ?i_Log_begin ?l_Log_begin ?cc_Log_begin ?kk_Log_begin ?a_Log_settle ?i_Log_settle ?l_Log_settle ?cc_Log_settle ?kk_Log_settle ?a_Log_drop ?i_Log_drop ?l_Log_drop ?cc_Log_drop ?kk_Log_drop ?a_Log_layers ?i_Log_layers ?l_Log_layers ?cc_Log_layers ?kk_Log_layers ?a_Log_saw ?i_Log_saw ?l_Log_saw ?cc_Log_saw ?kk_Log_saw ?a_Log_wrote ?i_Log_wrote ?l_Log_wrote ?cc_Log_wrote ?kk_Log_wrote ?a_l_cell_at ?l_l_cell_at ?cc_l_cell_at ?kk_l_cell_at ?a_l_mixed ?l_l_mixed ?cc_l_mixed ?kk_l_mixed ?a_l_alike ?l_l_alike ?cc_l_alike ?kk_l_alike ?a_l_own ?l_l_own ?cc_l_own ?kk_l_own ?a_l_done ?l_l_done ?cc_l_done ?kk_l_done ?a_l_stands ?l_l_stands ?cc_l_stands ?kk_l_stands ?a_law ?l_law ?cc_law ?kk_law ?b_bool ?b_int ?b_isinstance ?b_len ?b_list ?b_range ?b_reversed ?b_sorted ?b_str ?b_tuple ?g_Log ?pg_Log ?hd_Log ?po_Log ?sa_Log ?mk_Log ?kc_Log ?ntiers_Log ?nseen_Log
    (case g_Log => k_is)
    (case a_by_boxes => k_is)
    (case l_by_boxes => k_is)
    (case cc_by_boxes => k_is)
    (case kk_by_boxes => k_is)
    (case a_Log_init => k_is)
    (case i_Log_init => k_is)
    (case l_Log_init => k_is)
    (case cc_Log_init => k_is)
    (case kk_Log_init => k_is)
    (case a_Log_write => k_is)
    (case i_Log_write => k_is)
    (case l_Log_write => k_is)
    (case cc_Log_write => k_is)
    (case kk_Log_write => k_is)
    (case a_Log_own => k_is)
    (case i_Log_own => k_is)
    (case l_Log_own => k_is)
    (case cc_Log_own => k_is)
    (case kk_Log_own => k_is)
    (case a_Log_begin => k_is)
    (case i_Log_begin => k_is)
    (case l_Log_begin => k_is)
    (case cc_Log_begin => k_is)
    (case kk_Log_begin => k_is)
    (case a_Log_settle => k_is)
    (case i_Log_settle => k_is)
    (case l_Log_settle => k_is)
    (case cc_Log_settle => k_is)
    (case kk_Log_settle => k_is)
    (case a_Log_drop => k_is)
    (case i_Log_drop => k_is)
    (case l_Log_drop => k_is)
    (case cc_Log_drop => k_is)
    (case kk_Log_drop => k_is)
    (case a_Log_layers => k_is)
    (case i_Log_layers => k_is)
    (case l_Log_layers => k_is)
    (case cc_Log_layers => k_is)
    (case kk_Log_layers => k_is)
    (case a_Log_saw => k_is)
    (case i_Log_saw => k_is)
    (case l_Log_saw => k_is)
    (case cc_Log_saw => k_is)
    (case kk_Log_saw => k_is)
    (case a_Log_wrote => k_is)
    (case i_Log_wrote => k_is)
    (case l_Log_wrote => k_is)
    (case cc_Log_wrote => k_is)
    (case kk_Log_wrote => k_is)
    (case a_l_cell_at => k_is)
    (case l_l_cell_at => k_is)
    (case cc_l_cell_at => k_is)
    (case kk_l_cell_at => k_is)
    (case a_l_mixed => k_is)
    (case l_l_mixed => k_is)
    (case cc_l_mixed => k_is)
    (case kk_l_mixed => k_is)
    (case a_l_alike => k_is)
    (case l_l_alike => k_is)
    (case cc_l_alike => k_is)
    (case kk_l_alike => k_is)
    (case a_l_own => k_is)
    (case l_l_own => k_is)
    (case cc_l_own => k_is)
    (case kk_l_own => k_is)
    (case a_l_done => k_is)
    (case l_l_done => k_is)
    (case cc_l_done => k_is)
    (case kk_l_done => k_is)
    (case a_l_stands => k_is)
    (case l_l_stands => k_is)
    (case cc_l_stands => k_is)
    (case kk_l_stands => k_is)
    (case a_law => k_is)
    (case l_law => k_is)
    (case cc_law => k_is)
    (case kk_law => k_is)
    (case b_bool => k_is)
    (case b_int => k_is)
    (case b_isinstance => k_is)
    (case b_len => k_is)
    (case b_list => k_is)
    (case b_range => k_is)
    (case b_reversed => k_is)
    (case b_sorted => k_is)
    (case b_str => k_is)
    (case b_tuple => k_is)
    (case pg_Log => k_is)
    (case hd_Log => k_is)
    (case po_Log => k_is)
    (case sa_Log => k_is)
    (case mk_Log => k_is)
    (case kc_Log => k_is)
    (case ntiers_Log => k_is)
    (case nseen_Log => k_is)
#print axioms PySem.Challenge.cw_retryhall_k14_log_layers_holds

