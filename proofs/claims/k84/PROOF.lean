import PyProof.Rows.All
import KE.KStateDown
import HandS.Head0
import HandS.Head1
import HandS.Head2
import HandS.HeadEnd
import HandS.HeadHook1
import HandS.HeadHook2
import HandS.HeadHook3
import HandS.More
import HandS.ExcInit
import PySem.Challenge.RW_pilerecall_k84_tests_of_texts_whole
import Wide.All
import OpenK.AllK
import Wide.FinOn
import HandS.ForMost
import HandS.ForExc
import HandS.Evl
import HandS.Codes
import HandS.IsInst
import HandS.CallLocal
import HandS.Style
import HandS.Zip
import HandS.RaiseMore
import HandS.Defaults
import HandS.ReplaceList
import HandS.Replace
import HandS.ReplaceLit
import HandS.Exc
import HandS.ExcOwn
import HandS.ExcIs
import HandS.ExcField
import HandS.HotCalls
import KE.KExcIs
import HandS.Deep
import HandS.Ends
import PyProof.ReprRoads
import PyProof.ReprBulk
set_option Elab.async false
set_option linter.all false
set_option maxRecDepth 100000
set_option maxHeartbeats 4000000
/-! KHead: the head's facts: defs, names, tables with text keys, and one Bool more. -/
namespace Kb
open L2 PySem PySem.Spec PyProof.Rows
abbrev AlY : Type := He.AlT × Bool
def obsY (n : Nat) (fa : List He.Fa) (fn : List He.DefD) (ts : List He.Tab) (ex : PySem.W.Frag → Bool) (g : Addr → Option Obj) : AlY :=
  (He.obsT fa fn ts (He.frG g (He.asD g n)), ex (He.frG g (He.asD g n)))
def hookY (n : Nat) (fa : List He.Fa) (fn : List He.DefD) (ts : List He.Tab) (ex : PySem.W.Frag → Bool) : PySem.W.Hook where
  α := AlY
  obs := fun s => obsY n fa fn ts ex s.heap.get?
  val := fun w => (He.valT fn ts w, true)
  says := fun w h => ∃ K : PySem.W.Frag, K.In h ∧ He.SaysT fa fn ts w K ∧ ex K = true
  of := fun _ _ e => ⟨_, He.frG_in, congrArg (fun z : AlY => z.1) e, congrArg (fun z : AlY => z.2) e⟩
  keeps := fun _ _ _ said stay => said.imp fun _ both => ⟨PySem.W.Frag.In.keeps both.1 stay, both.2⟩
theorem obsY_eq {n : Nat} {fa : List He.Fa} {fn : List He.DefD} {ts : List He.Tab} {ex : PySem.W.Frag → Bool} {g : Addr → Option Obj} {s : Shared} (h : ∀ a, g a = s.heap.get? a) : obsY n fa fn ts ex g = (hookY n fa fn ts ex).obs s := by
  rw [show g = s.heap.get? from funext h]
  rfl
end Kb
set_option Elab.async false
set_option linter.all false
set_option maxRecDepth 100000
set_option maxHeartbeats 4000000
/-! K84Top: the text by places, what the top has written. -/
namespace K84
open PySem PySem.Spec PyProof.Rows L2 Kb
def top (i : Nat) : Stmt := PySem.Challenge.pw_pilerecall_k84_tests_of_texts_whole.main.body.getD i (.Pass ⟨0, 0, 0, 0⟩)
def dd (i : Nat) (x : Str) : He.DefD := ⟨(x, none), x, x, defArgs (top i), defBody (top i), defScope (top i), [], []⟩
def di (i : Nat) (x q : Str) : He.DefD := ⟨(x, some "__init__"), "__init__", q, defArgs (inClass (top i) 0), defBody (inClass (top i) 0), defScope (inClass (top i) 0), [], []⟩
def fnA : List He.DefD := [
  dd 23 "is_text", dd 26 "check_name", dd 32 "is_mirrored", dd 33 "is_found", dd 34 "is_bordered", dd 35 "is_mirrorstart", dd 36 "is_balanced", dd 37 "is_evenly", dd 38 "is_copied", dd 39 "is_thirds",
  dd 40 "is_power", dd 41 "is_any", dd 42 "is_two_mirrors", dd 43 "is_even_mirrors", dd 45 "check_asked", dd 46 "plainly", dd 48 "_law_whole", dd 49 "_law_same", dd 50 "_law_cell", dd 51 "_law_digits"]
def fnB : List He.DefD := [
  dd 52 "_law_names", dd 53 "_law_back", dd 54 "_law_mirror", dd 55 "_law_fold", dd 56 "_law_brackets", dd 57 "_law_fitted", dd 58 "_law_tale", dd 59 "_law_stands", dd 60 "_law_evens", dd 61 "_law_good",
  dd 62 "_law_due", dd 63 "_law_plain", dd 64 "_law_asked", dd 65 "_law_right", dd 66 "_law_long", dd 67 "_law_bad", dd 68 "_law_odd", dd 69 "law", di 20 "NoSuchProgram" "NoSuchProgram.__init__", di 4 "BadText" "BadText.__init__"]
def fn : List He.DefD := fnA ++ fnB
/-- the names of defs, in the order of fn; then the classes -/
def glosA : List Str := ["is_text", "check_name", "is_mirrored", "is_found", "is_bordered", "is_mirrorstart", "is_balanced", "is_evenly", "is_copied", "is_thirds",
  "is_power", "is_any", "is_two_mirrors", "is_even_mirrors", "check_asked", "plainly", "_law_whole", "_law_same", "_law_cell", "_law_digits"]
def glosB : List Str := [
  "_law_names", "_law_back", "_law_mirror", "_law_fold", "_law_brackets", "_law_fitted", "_law_tale", "_law_stands", "_law_evens", "_law_good",
  "_law_due", "_law_plain", "_law_asked", "_law_right", "_law_long", "_law_bad", "_law_odd", "law"]
def glos : List Str := glosA ++ glosB
def glos2 : List Str := ["NAMES", "ENDLESS", "GUESSING", "TESTS", "NoSuchProgram", "BadText", "RecallError", "BadCode", "BadDeed", "BadLine", "BadPaper", "BadSplice", "BadStanding", "BadSurface", "BadToken", "BadTree",
  "BadGrammar", "BadMachine", "DoubleName", "Guesses", "NoSuchProcedure", "NothingToUndo", "TooLong", "UnlikeLetters"]
def frees : List Str := ["len", "range", "isinstance", "all", "any", "int", "str", "bool", "tuple", "min", "max", "repr", "ValueError"]
def names15 : List (List Nat) := [[109, 105, 114, 114, 111, 114, 101, 100], [102, 111, 117, 110, 100], [98, 111, 114, 100, 101, 114, 101, 100], [109, 105, 114, 114, 111, 114, 115, 116, 97, 114, 116], [98, 97, 108, 97, 110, 99, 101, 100], [101, 118, 101, 110, 108, 121], [99, 111, 112, 105, 101, 100], [116, 104, 105, 114, 100, 115], [112, 111, 119, 101, 114], [98, 97, 99, 107, 119, 97, 114, 100, 115], [100, 111, 117, 98, 108, 105, 110, 103], [99, 104, 97, 110, 116], [114, 111, 117, 110, 100, 115], [116, 119, 111, 109, 105, 114, 114, 111, 114, 115], [101, 118, 101, 110, 109, 105, 114, 114, 111, 114, 115]]
/-- what an error class of the text is: its object, over ValueError by own classes -/
def oexB (K : PySem.W.Frag) (C : Addr) : Bool := match K.lookup C with
  | some ⟨.type "type", _, .cls data, vals⟩ => (match data.mro, vals.toList with
    | .ref C' :: bm, [_, _, _, _, some (.builtin n), _] => decide (C' = C) && (decide (n = "ValueError.__new__") && (!data.hasDel && (data.hasDict && PySem.HandSPX.refsVE bm)))
    | _, _ => false)
  | _ => false
/-- the facts of an error class -/
def clsB (K : PySem.W.Frag) (x f : Str) : Bool :=
  oexB K (He.ga K x) && decide (PySem.W.findIn K (.ref (He.ga K x)) "__setattr__" = some (some (.builtin "object.__setattr__"))) && decide (PySem.W.subIn K (.ref (He.ga K x)) (.type "BaseException") = some true) && decide (PySem.W.typeIn K (.ref (He.ga K x)) = some (.type "type"))
  && PySem.W.keepIn K (.ref (He.ga K x)) && decide (PySem.W.findIn K (.ref (He.ga K x)) f = some none) && decide (PySem.W.findIn K (.ref (He.ga K x)) "__init__" = some (some (.ref (He.ma K (He.ga K x) "__init__")))) && decide (PySem.W.typeIn K (.ref (He.ma K (He.ga K x) "__init__")) = some (.type "function"))
  && decide (PySem.W.findIn K (.ref (He.ga K x)) "__getattribute__" = some (some (.builtin "BaseException.__getattribute__"))) && decide (PySem.W.findIn K (.ref (He.ga K x)) "__getattr__" = some none) && PySem.W.hasDictIn K (He.ga K x) && decide (PySem.W.findIn K (.ref (He.ga K x)) "__class__" = some (some (.builtin "object.__class__")))
  && decide (PySem.W.specialIn K (.builtin "object.__class__") "__get__" = some (some (.builtin "getset_descriptor.__get__"))) && decide (PySem.W.takesIn K (.builtin "object.__class__") = some true) && decide (PySem.W.mroIn K (He.ga K x) (.type "object") = some true)
def others : List Str := ["BadCode", "BadDeed", "BadLine", "BadPaper", "BadSplice", "BadStanding", "BadSurface", "BadToken", "BadTree", "BadGrammar", "BadMachine", "DoubleName", "Guesses", "NoSuchProcedure", "NothingToUndo", "TooLong", "UnlikeLetters"]
/-- isinstance of an instance of x, by kitOne -/
def kitB2 (K : PySem.W.Frag) (x : Str) : Bool := others.all (fun y => decide (PySem.W.kitOne K (.ref (He.ga K x)) (.ref (He.ga K y)) = some false)) &&
  decide (PySem.W.kitOne K (.ref (He.ga K x)) (.ref (He.ga K "RecallError")) = some true) && decide (PySem.W.kitOne K (.ref (He.ga K x)) (.type "ValueError") = some true)
def namesD : List He.Dv := ["mirrored", "found", "bordered", "mirrorstart", "balanced", "evenly", "copied", "thirds", "power", "backwards", "doubling", "chant", "rounds", "twomirrors", "evenmirrors"].map fun x => He.Dv.str (Str.ofString x)
def testsV : List (Str × Str) := [("mirrored", "is_mirrored"), ("found", "is_found"), ("bordered", "is_bordered"), ("mirrorstart", "is_mirrorstart"), ("balanced", "is_balanced"), ("evenly", "is_evenly"), ("copied", "is_copied"), ("thirds", "is_thirds"), ("power", "is_power"), ("backwards", "is_any"), ("doubling", "is_any"), ("twomirrors", "is_two_mirrors"), ("evenmirrors", "is_even_mirrors")]
def exA (K : PySem.W.Frag) : Bool :=
  He.tupB K "NAMES" namesD && He.tupB K "ENDLESS" [.str "chant", .str "rounds"] && He.tupB K "GUESSING" [.str "twomirrors", .str "evenmirrors"] && He.valsB K (He.ga K "TESTS") (testsV.map fun q => (q.1, .glo q.2))
def exB (K : PySem.W.Frag) : Bool := clsB K "NoSuchProgram" "name" && clsB K "BadText" "text" && kitB2 K "NoSuchProgram" && kitB2 K "BadText"
def exC (K : PySem.W.Frag) : Bool :=
  decide (PySem.W.kitOne K (.ref (He.ga K "NoSuchProgram")) (.ref (He.ga K "BadText")) = some false) && decide (PySem.W.kitOne K (.ref (He.ga K "BadText")) (.ref (He.ga K "NoSuchProgram")) = some false) &&
  decide (PySem.W.exmOne K (.ref (He.ga K "NoSuchProgram")) (.ref (He.ga K "NoSuchProgram")) = some true) && decide (PySem.W.exmOne K (.ref (He.ga K "BadText")) (.ref (He.ga K "NoSuchProgram")) = some false) &&
  decide (PySem.W.exmOne K (.ref (He.ga K "BadText")) (.ref (He.ga K "BadText")) = some true)
def ex (K : PySem.W.Frag) : Bool := exA K && exB K && exC K
def fa : List He.Fa := (glos ++ glos2).map .glo ++ frees.map .free ++ [.int "MOST_LETTERS" 400, .int "MOST_GUESSED" 40, .str "LETTERS_READ" "abc"]
end K84
set_option Elab.async false
set_option linter.all false
set_option maxRecDepth 100000
set_option maxHeartbeats 0
/-! K84Head: the top's run. -/
namespace K84
open PySem PySem.Spec PyProof.Rows L2 Kb
abbrev R : PySem.W.OpenRow := PySem.W.OpenLaw.row PySem.Challenge.rw_pilerecall_k84_tests_of_texts_whole
def tabs : List He.Tab := [(fun K => He.ga K "TESTS", testsV.map (·.1))]
abbrev hk : PySem.W.Hook := hookY 5 fa fn tabs ex
def ob (s : PySem.W.SharedT) : AlY := obsY 5 fa fn tabs ex (HandSHeadRun.getT s)
theorem ob_eq (s : PySem.W.SharedT) : ob s = hk.obs s.abs := obsY_eq (HandSHeadRun.getT_eq s)
def names1 : List Str := ["RecallError", "BadMachine", "BadLine", "BadText", "Guesses", "BadStanding", "BadSurface", "TooLong", "BadSplice", "NothingToUndo", "BadDeed", "BadTree", "DoubleName", "NoSuchProcedure", "BadToken", "UnlikeLetters", "BadCode", "BadPaper", "BadGrammar", "NoSuchProgram"]
def names2 : List Str := ["MOST_LETTERS", "is_text", "NAMES", "check_name", "LETTERS_READ", "ENDLESS", "GUESSING", "MOST_GUESSED", "is_mirrored", "is_found", "is_bordered", "is_mirrorstart", "is_balanced", "is_evenly", "is_copied", "is_thirds", "is_power", "is_any", "is_two_mirrors", "is_even_mirrors", "TESTS", "check_asked", "plainly"]
def names3 : List Str := ["_law_whole", "_law_same", "_law_cell", "_law_digits", "_law_names", "_law_back", "_law_mirror", "_law_fold", "_law_brackets", "_law_fitted", "_law_tale", "_law_stands", "_law_evens", "_law_good", "_law_due", "_law_plain", "_law_asked", "_law_right", "_law_long", "_law_bad", "_law_odd"]
def names : List Str := names1 ++ names2 ++ names3
abbrev Run (w : World) : Prop := HandSHeadRun.RunEq R (PySem.W.view R.prog [69]) hk ob 12000 names w
theorem run_no (w : World) : Run (w.withFollow "special-get-raises" false) := by
  intro os
  kernel_rfl
theorem run_yes (w : World) : Run (w.withFollow "special-get-raises" true) := by
  intro os
  kernel_rfl
theorem run (w : World) : Run w := PySem.W.byRow2 "special-get-raises" (P := Run) run_no run_yes w
end K84
set_option Elab.async false
set_option linter.all false
set_option maxRecDepth 100000
set_option maxHeartbeats 4000000
/-! KBase: readings of pure expressions over texts (as lists of signs), ints and lists: what evaluates to what. -/
namespace Kb
open L2 PySem PySem.Spec PyProof.Rows
open SX (S S_len S_cat S_inj)
open Evl (Ev EvL EvU EvT EvA EvO Ex RV RC RCL SpV SpL ev_op sz_of sz_lt fresh_back ev_cb el_cb RetV RetL)

abbrev tx (l : List Nat) : V := .str (S l)
theorem dec_tx (a b : List Nat) : decide (tx a = tx b) = decide (a = b) := by
  by_cases h : a = b
  · subst h
    simp
  · have h2 : ¬ tx a = tx b := fun e => h (S_inj (V.str.inj e))
    rw [decide_eq_false h, decide_eq_false h2]
theorem tl_S (l : List Nat) : (S l).cps.toList = l := by simp [S]
theorem sz1 {n m : Nat} (h : n + m ≤ 1000000) : n + m ≤ sizeLine := Nat.le_trans h (by decide)
theorem szm {n : Nat} (h : n ≤ 1000000) : n ≤ sizeLine := Nat.le_trans h (by decide)

/-! ### operators by name -/
def rAdS : R2 := fun x y H Q => ∃ i j, x = .str i ∧ y = .str j ∧ i.length + j.length ≤ sizeLine ∧ Q (.str (i ++ j)) H
def rInS : R2 := fun x y H Q => ∃ i j, x = .str i ∧ y = .str j ∧ Q (.bl (!(Builtin.Str.occurrences j i 0 j.length 1).isEmpty)) H
def rMuS : R2 := fun x y H Q => ∃ (z : Str) (n : Int), x = .str z ∧ y = .int n ∧ MulOk z n ∧ Q (.str (Txt.mul z n)) H
def rLnS : List V → Hp → VK → Prop := fun xs H Q => ∃ z, xs = [.str z] ∧ z.length ≤ sizeLine ∧ Q (.int z.length) H
def rLnL (K : PySem.W.Frag) : List V → Hp → VK → Prop := fun xs H Q => ∃ p ys, xs = [.ref p] ∧ (SqL K H p ys ∨ SqT K H p ys) ∧ Q (.int ys.length) H
def rToI : List V → Hp → VK → Prop := fun xs H Q => (∃ i, xs = [.int i] ∧ Q (.int i) H) ∨ ∃ k, xs = [.bl k] ∧ Q (.int (if k then 1 else 0)) H
def rIsB : R2 := fun x y H Q => ∃ a b, x = .bl a ∧ y = .bl b ∧ Q (.bl (decide (a = b))) H
def rEnd : V → List V → Hp → VK → Prop := fun x xs H Q => ∃ a b, x = .str a ∧ xs = [.str b] ∧ Q (.bl (Txt.endswith a b)) H
def rCnt : V → List V → Hp → VK → Prop := fun x xs H Q => ∃ a b, x = .str a ∧ xs = [.str b] ∧ Q (.int (Txt.count a b)) H
def rSpl : V → List V → Hp → VK → Prop := fun x xs H Q => ∃ a b, x = .str a ∧ xs = [.str b] ∧ (b.length == 0) = false ∧ a.length + 2 ≤ sizeLine ∧ rNewStrs (Txt.split a b) H Q
def rJoi (K : PySem.W.Frag) : V → List V → Hp → VK → Prop := fun x xs H Q => ∃ a p, ∃ ys : List Str, x = .str a ∧ xs = [.ref p] ∧ (SqL K H p (ys.map V.str) ∨ SqT K H p (ys.map V.str)) ∧ (ys.map (·.length)).sum + ys.length * a.length ≤ 16777216 ∧ Q (.str (Txt.join a ys)) H
def rUpp : V → List V → Hp → VK → Prop := fun x xs H Q => ∃ a, x = .str a ∧ xs = [] ∧ a.length ≤ 5592405 ∧ Q (.str (Txt.upper a)) H
abbrev rAdI : R2 := rI0 fun i j => .int (i + j)
abbrev rSuI : R2 := rI0 fun i j => .int (i - j)
abbrev rLtI : R2 := rI0 fun i j => .bl (decide (i < j))
abbrev rLeI : R2 := rI0 fun i j => .bl (decide (i ≤ j))
abbrev rGtI : R2 := rI0 fun i j => .bl (decide (j < i))
abbrev rGeI : R2 := rI0 fun i j => .bl (decide (j ≤ i))
section
variable {X : Cx}
theorem op_adS : OpR X (binaryOp .Add) rAdS := op_add_str
theorem op_inS : OpR X (compareOp .In) rInS := op_in_str
theorem op_muS : OpR X (binaryOp .Mult) rMuS := by
  intro pins s σ H x y v u Q inv isx isy wish
  obtain ⟨z, n, rfl, rfl, fits, q⟩ := wish
  obtain ⟨tz, rfl⟩ := isx
  obtain ⟨tn, rfl⟩ := isy
  exact SB.mul fits fun _ _ => ⟨.str _, H, inv.tok _, ⟨_, rfl⟩, q⟩
theorem cl_lnS : CallR X (.builtin "len") rLnS := call_len_str
theorem cl_lnL : CallR X (.builtin "len") (rLnL X.K) := call_len_seq
theorem cl_int : CallR X (.type "int") rToI := call_int1
theorem op_isB : OpR X (compareOp .Is) rIsB := fun pins s σ H x y v u Q inv isx isy wish => by
  obtain ⟨k, m, ek, em, q⟩ := wish
  subst ek em
  exact op_isBl pins s σ H _ _ v u Q inv isx isy ⟨k, m, rfl, rfl, q⟩
theorem m_end : MtR X "str.endswith" rEnd := mt_endswith
theorem m_cnt : MtR X "str.count" rCnt := mt_count
theorem m_spl : MtR X "str.split" rSpl := mt_split
theorem m_joi : MtR X "str.join" (rJoi X.K) := mt_join
theorem m_upp : MtR X "str.upper" rUpp := mt_upper
end

/-! ### rules -/
section
variable {X : Cx}
theorem pe_tx {x : Str} {l : List Nat} {j : Nat} {pos : Pos} (h : x = S l) : PE X (.Constant (.str x) j pos) (tC (tx l)) := by
  subst h
  exact pe_str
/-- z[::-1] of a text -/
def tRevS (te : TE) : TE := fun σ H Q => te σ H fun x H1 => ∃ l : List Nat, x = tx l ∧ l.length ≤ sizeLine ∧ Q (tx l.reverse) H1
theorem rev_list (l : List Nat) (u : Tok) : (Txt.sliceBy (S l) none none (-1, u)) = S l.reverse := by
  have h := step_rev_list (S l) u
  have e : (List.range (S l).length).map (fun k => (S l).cps.getD ((S l).length - 1 - k) 0) = l.reverse := by
    apply List.ext_getElem
    · simp [S, Str.length]
    · intro i h1 h2
      simp only [S, Str.length, List.length_map, List.length_range, List.size_toArray, List.length_reverse] at h1 h2
      have h3 : l.length - 1 - i < l.length := by omega
      simp [S, Str.length, Array.getD, h3]
  rw [e] at h
  have e2 : (Txt.sliceBy (S l) none none (-1, u)).cps = l.reverse.toArray := by
    rw [← h]
  have e3 : ∀ x : Str, x.cps = l.reverse.toArray → x = S l.reverse := fun x hx => by
    cases x
    exact congrArg Str.mk hx
  exact e3 _ e2
theorem pe_revS {e : Expr} {te : TE} {k : Nat} {p1 p2 p3 pos : Pos} (he : PE X e te) : PE X (.Subscript e (.Slice none none (some (.UnaryOp .USub (.Constant (.int 1) k p1) p2)) p3) pos) (tRevS te) := ⟨fun pins s σ H Q I wish => by
  refine Subscript_ (thn (he.run pins s σ H _ I wish) fun v sA got => ?_)
  obtain ⟨x, HA, IA, rx, a, rfl, hx, q⟩ := got
  obtain ⟨t, rfl⟩ := rx
  have step : PO X (some (.UnaryOp .USub (.Constant (.int 1) k p1) p2)) (tPart (tUn (rU fun i => .int (-i)) (tC (.int 1)))) :=
    po_some (pe_un un_neg pe_int)
  refine wpAny_Slice (thn (po_none.run pins sA σ HA (fun o HB => o = none ∧ HB = HA) IA ⟨rfl, rfl⟩) fun lo sB gotB => ?_)
  obtain ⟨oB, HB, IB, isLo, rfl, rfl⟩ := gotB
  refine thn (po_none.run pins sB σ HB (fun o HC => o = none ∧ HC = HB) IB ⟨rfl, rfl⟩) fun hi sC gotC => ?_
  obtain ⟨oC, HC, IC, isHi, rfl, rfl⟩ := gotC
  refine thn (step.run pins sC σ HC (fun o HD => o = some (-1) ∧ HD = HC) IC ⟨1, rfl, -1, rfl, rfl, rfl⟩) fun by_ sD gotD => ?_
  obtain ⟨oD, HD, ID, isBy, rfl, rfl⟩ := gotD
  have IE : Inv X pins σ HD { sD with heap := sD.heap.push { cls := .type "slice", data := .fields #[lo, hi, by_] } } :=
    ID.kept (t' := sD.toks) fun _ _ z => Heap.get?_push_of_some _ z
  obtain ⟨l1, rfl, e1⟩ := IsPart.raw isLo
  obtain ⟨l2, rfl, e2⟩ := IsPart.raw isHi
  obtain ⟨l3, rfl, e3⟩ := IsPart.raw isBy
  match l1, l2, l3, e1, e2, e3, IE with
  | none, none, some (k3, u3), _, _, e3, IE =>
    obtain rfl : k3 = -1 := Option.some.inj e3
    refine tail_any (ops := [.str (S a) t, .ref sD.heap.objs.size]) (typeIs_str _ _ _) (PySem.F.slot_str_getitem.lookup) ?_ (by with_unfolding_all rfl)
    refine wpAny_getItem_str_slice (l := none) (u := none) (st := some (-1, u3)) ⟨_, Heap.get?_push_size _ rfl, rfl, rfl⟩ rfl ?_
    have short : (Txt.sliceBy (S a) none none (-1, u3)).length ≤ sizeLine := by
      rw [rev_list, S_len, List.length_reverse]
      exact hx
    refine post_val_or_str (y := S a) (z := ⟨((slicePicked (S a) none none (some (-1, u3))).filterMap ((S a).cps[·]?)).toArray⟩) ⟨short, fun tk _ => ⟨tx a.reverse, _, IE.tok _, ⟨tk, ?_⟩, q⟩⟩
    have whole : Txt.sliceBy (S a) none none (-1, u3) = S a.reverse := rev_list a u3
    rw [← whole]
    rfl⟩
end

/-! ### a def that is called by its name -/
structure DefOk (P : Program) (w : World) (K : PySem.W.Frag) (mg : Str → Option Value) (base : Heap) (CX : CXT) (x : Str) (k : Nat) (ps : List Str) (sp : Sp) : Prop where
  ex : ∃ (f : Addr) (fd : FuncData), mg x = some (.ref f) ∧ PySem.W.keepIn K (.ref f) = true ∧ Binds K fd ps [] ∧ FnOk P w K mg base CX k f fd ps sp
section
variable {X : Cx} {CX : CXT} {x : Str} {j k : Nat} {ps : List Str} {sp : Sp} {q pos : Pos} {e : Expr} {es : List Expr} {t : TA}
theorem pe_D (D : DefOk X.prog X.w X.K X.mg X.base CX0 x j ps sp) (hj : j ≤ k) (hr : Room k X.A) (ha : PA X (e :: es) t) (hg : Gl X x := by rfl) (hdb : (x == ("__debug__" : Str)) = false := by decide)
    (plainA : starEach (e :: es) X.env = (false, eval e X.env) :: starEach es X.env := by rfl)
    (noStar : (backTo pos (starEach es X.env)).any (·.1) = false := by rfl) : PE X (.Call (.Name x q) (e :: es) [] pos) (tCall sp [] E0 t) := by
  obtain ⟨f, fd, h1, h2, h3, h4⟩ := D.ex
  exact pe_call h4 (hr.mono hj) hg h1 h2 h3 .nil pass0 ha hdb plainA noStar
theorem pe_D0 (D : DefOk X.prog X.w X.K X.mg X.base CX0 x j ps sp) (hj : j ≤ k) (hr : Room k X.A) (hg : Gl X x := by rfl) (hdb : (x == ("__debug__" : Str)) = false := by decide) :
    PE X (.Call (.Name x q) [] [] pos) (tCall sp [] E0 tNil) := by
  obtain ⟨f, fd, h1, h2, h3, h4⟩ := D.ex
  exact pe_call0 h4 (hr.mono hj) hg h1 h2 h3 .nil pass0 hdb
end

/-! ### what evaluates to what: texts -/
section
variable {K : PySem.W.Frag} {σ : L2.St} {H H' : Hp} {ta tb te : TE} {t u : TT} {a b : List Nat} {i j : Int} {x y z v : V}
theorem ev_tx : Ev (tC (tx a)) σ H (tx a) := Evl.ev_c
theorem ev_add (ha : Ev ta σ H (.int i)) (hb : Ev tb σ H (.int j)) : Ev (tOp (rI0 fun i j => .int (i + j)) ta tb) σ H (.int (i + j)) := ev_op ha hb Evl.rv_I0
theorem ev_sub (ha : Ev ta σ H (.int i)) (hb : Ev tb σ H (.int j)) : Ev (tOp (rI0 fun i j => .int (i - j)) ta tb) σ H (.int (i - j)) := ev_op ha hb Evl.rv_I0
theorem ev_lt (ha : Ev ta σ H (.int i)) (hb : Ev tb σ H (.int j)) : Ev (tOp (rI0 fun i j => .bl (decide (i < j))) ta tb) σ H (.bl (decide (i < j))) := ev_op ha hb Evl.rv_I0
theorem ev_le (ha : Ev ta σ H (.int i)) (hb : Ev tb σ H (.int j)) : Ev (tOp (rI0 fun i j => .bl (decide (i ≤ j))) ta tb) σ H (.bl (decide (i ≤ j))) := ev_op ha hb Evl.rv_I0
theorem ev_gt (ha : Ev ta σ H (.int i)) (hb : Ev tb σ H (.int j)) : Ev (tOp (rI0 fun i j => .bl (decide (j < i))) ta tb) σ H (.bl (decide (j < i))) := ev_op ha hb Evl.rv_I0
theorem ev_ge (ha : Ev ta σ H (.int i)) (hb : Ev tb σ H (.int j)) : Ev (tOp (rI0 fun i j => .bl (decide (j ≤ i))) ta tb) σ H (.bl (decide (j ≤ i))) := ev_op ha hb Evl.rv_I0
theorem dec_int (i j : Int) : decide (V.int i = V.int j) = decide (i = j) := by
  by_cases h : i = j
  · subst h
    simp
  · have h2 : ¬ V.int i = V.int j := fun e => h (V.int.inj e)
    rw [decide_eq_false h, decide_eq_false h2]
theorem ev_eqI (ha : Ev ta σ H (.int i)) (hb : Ev tb σ H (.int j)) : Ev (tOp rEq ta tb) σ H (.bl (decide (i = j))) := by
  have h := ev_op ha hb (Evl.rv_eq (H := H) (x := .int i) (y := .int j) rfl)
  rw [dec_int] at h
  exact h
theorem ev_neI (ha : Ev ta σ H (.int i)) (hb : Ev tb σ H (.int j)) : Ev (tOp rNe ta tb) σ H (.bl (!decide (i = j))) := by
  have h := ev_op ha hb (Evl.rv_ne (H := H) (x := .int i) (y := .int j) rfl)
  rw [dec_int] at h
  exact h
theorem ev_eqS (ha : Ev ta σ H (tx a)) (hb : Ev tb σ H (tx b)) : Ev (tOp rEq ta tb) σ H (.bl (decide (a = b))) := by
  have h := ev_op ha hb (Evl.rv_eq (H := H) (x := tx a) (y := tx b) rfl)
  rw [dec_tx] at h
  exact h
theorem ev_mod {m : Int} (ha : Ev ta σ H (.int i)) (hb : Ev tb σ H (.int j)) (hj : 0 < j) (hm : i % j = m) : Ev (tOp (rI (fun _ j => 0 < j) fun i j => .int (i % j)) ta tb) σ H (.int m) := by
  subst hm
  exact ev_op ha hb (Evl.rv_I hj)
theorem ev_div {m : Int} (ha : Ev ta σ H (.int i)) (hb : Ev tb σ H (.int j)) (hj : 0 < j ∧ j.natAbs < 1073741824) (hm : i / j = m) : Ev (tOp (rI CDiv fun i j => .int (i / j)) ta tb) σ H (.int m) := by
  subst hm
  exact ev_op ha hb (Evl.rv_I (by unfold CDiv; exact ⟨hj.1, by omega⟩))
theorem ev_adS (ha : Ev ta σ H (tx a)) (hb : Ev tb σ H (tx b)) (hz : a.length + b.length ≤ 1000000) : Ev (tOp rAdS ta tb) σ H (tx (a ++ b)) :=
  ev_op ha hb fun H1 _ Q q => ⟨S a, S b, rfl, rfl, by rw [S_len, S_len]; exact szm hz, by rw [S_cat]; exact q H1 (Ex.refl H1)⟩
theorem mul_S (a : List Nat) (n : Int) : Txt.mul (S a) n = S (List.replicate n.toNat a).flatten := by
  unfold Txt.mul
  have fl : ∀ (k : Nat) (acc : Array Nat), ((List.replicate k (S a).cps).foldl (· ++ ·) acc).toList = acc.toList ++ (List.replicate k a).flatten := by
    intro k
    induction k with
    | zero => intro acc; simp
    | succ k ih =>
      intro acc
      rw [List.replicate_succ, List.foldl_cons, ih, List.replicate_succ, List.flatten_cons, Array.toList_append]
      simp [S]
  by_cases h1 : n < 1
  · rw [if_pos h1]
    rw [show n.toNat = 0 by omega]
    rfl
  · rw [if_neg h1]
    by_cases h2 : (n == 1 || (S a).length == 0) = true
    · rw [if_pos h2]
      rw [Bool.or_eq_true] at h2
      rcases h2 with h2 | h2
      · have e : n = 1 := by simpa using h2
        subst e
        simp
      · have e : a = [] := by simpa [S, Str.length] using h2
        subst e
        simp
    · rw [if_neg h2]
      have e := fl n.toNat #[]
      have e3 : ∀ x : Str, x.cps.toList = (List.replicate n.toNat a).flatten → x = S (List.replicate n.toNat a).flatten := fun x hx => by
        cases x
        rename_i c
        have hx : c.toList = _ := hx
        show (⟨c⟩ : Str) = ⟨_⟩
        rw [← hx]
      exact e3 ⟨_⟩ (by rw [e]; simp)
theorem ev_muS (L N : Nat) (ha : Ev ta σ H (tx a)) (hb : Ev tb σ H (.int i)) (h1 : a.length ≤ L) (h2 : i ≤ (N : Int)) (h3 : -(2 ^ 63 : Int) ≤ i) (h4 : N ≤ 16777216) (h5 : L * N ≤ 16777216) : Ev (tOp rMuS ta tb) σ H (tx (List.replicate i.toNat a).flatten) :=
  ev_op ha hb fun H1 _ Q q => ⟨S a, i, rfl, rfl, mulOk_of L N (by rw [S_len]; exact h1) h2 h3 h4 h5, by rw [mul_S]; exact q H1 (Ex.refl H1)⟩
theorem ev_lnS {n : Int} (ha : Ev ta σ H (tx a)) (hz : a.length ≤ 1000000) (hn : (a.length : Int) = n) : Ev (tCB rLnS (tCons ta tNil)) σ H (.int n) := by
  subst hn
  exact fun H1 e Q q => ha H1 e _ fun H2 e2 => ⟨S a, rfl, by rw [S_len]; exact szm hz, by rw [S_len]; exact q H2 e2⟩
theorem ev_lnL {p : Addr} {xs : List V} {n : Int} (ha : Ev ta σ H (.ref p)) (h : SqL K H p xs) (hn : (xs.length : Int) = n) : Ev (tCB (rLnL K) (tCons ta tNil)) σ H (.int n) := by
  subst hn
  exact fun H1 e Q q => ha H1 e _ fun H2 e2 => ⟨p, xs, rfl, .inl (Evl.ex_l (e.trans e2) h), q H2 e2⟩
theorem ev_lnT {p : Addr} {xs : List V} {n : Int} (ha : Ev ta σ H (.ref p)) (h : SqT K H p xs) (hn : (xs.length : Int) = n) : Ev (tCB (rLnL K) (tCons ta tNil)) σ H (.int n) := by
  subst hn
  exact fun H1 e Q q => ha H1 e _ fun H2 e2 => ⟨p, xs, rfl, .inr (Evl.ex_t (e.trans e2) h), q H2 e2⟩
theorem ev_int (ha : Ev ta σ H (.int i)) : Ev (tCB rToI (tCons ta tNil)) σ H (.int i) := fun H1 e Q q => ha H1 e _ fun H2 e2 => .inl ⟨i, rfl, q H2 e2⟩
theorem ev_intB {k : Bool} (ha : Ev ta σ H (.bl k)) : Ev (tCB rToI (tCons ta tNil)) σ H (.int (if k then 1 else 0)) := fun H1 e Q q => ha H1 e _ fun H2 e2 => .inr ⟨k, rfl, q H2 e2⟩
theorem ev_revS (ha : Ev ta σ H (tx a)) (hz : a.length ≤ 1000000) : Ev (tRevS ta) σ H (tx a.reverse) := fun H1 e Q q => ha H1 e _ fun H2 e2 => ⟨a, rfl, szm hz, q H2 e2⟩
/-- a slice of a text -/
def cutL (l : List Nat) (lo hi : Option Int) : List Nat := (l.drop (HT.sIx l.length 0 lo)).take (HT.sIx l.length l.length hi - HT.sIx l.length 0 lo)
theorem cutS_S (l : List Nat) (lo hi : Option Int) : cutS (S l) lo hi = S (cutL l lo hi) := by
  unfold cutS cutL
  rw [S_len, tl_S]
theorem ev_slS {tl th : TO} {lo hi : Option Int} {c : List Nat} (ha : Ev ta σ H (tx a)) (h1 : EvO tl σ H lo) (h2 : EvO th σ H hi) (hz : a.length ≤ 1000000) (hc : cutL a lo hi = c) : Ev (tSl rSlS ta tl th) σ H (tx c) := by
  subst hc
  exact fun H1 e Q q => ha H1 e _ fun H2 e2 => h1 H2 (e.trans e2) _ fun H3 e3 => h2 H3 ((e.trans e2).trans e3) _ fun H4 e4 =>
    ⟨S a, rfl, by rw [S_len]; exact szm hz, by rw [cutS_S]; exact q H4 ((e2.trans e3).trans e4)⟩
theorem sIx_nn (n d k : Nat) : HT.sIx n d (some (k : Int)) = min k n := HT.sIx_nat n d k
theorem cut_to (l : List Nat) (k : Nat) : cutL l none (some (k : Int)) = l.take k := by
  unfold cutL
  rw [sIx_nn, HT.sIx_none, List.drop_zero, Nat.sub_zero, List.take_eq_take_iff]
  omega
theorem cut_from (l : List Nat) (k : Nat) : cutL l (some (k : Int)) none = l.drop k := by
  unfold cutL
  rw [sIx_nn, HT.sIx_none]
  rw [List.take_of_length_le (by rw [List.length_drop]; omega)]
  by_cases h : k ≤ l.length
  · rw [Nat.min_eq_left h]
  · rw [Nat.min_eq_right (by omega), List.drop_length, List.drop_eq_nil_of_le (by omega)]
theorem cut_mid (l : List Nat) (j k : Nat) : cutL l (some (j : Int)) (some (k : Int)) = (l.take k).drop j := by
  unfold cutL
  rw [sIx_nn, sIx_nn]
  apply List.ext_getElem?
  intro i
  rw [List.getElem?_take, List.getElem?_drop, List.getElem?_drop, List.getElem?_take]
  by_cases h : j + i < k
  · rw [if_pos h]
    by_cases hl : j + i < l.length
    · rw [if_pos (by omega)]
      congr 1
      omega
    · have : l[j + i]? = none := List.getElem?_eq_none (by omega)
      rw [this]
      split
      · exact List.getElem?_eq_none (by omega)
      · rfl
  · rw [if_neg h]
    rw [if_neg (by omega)]
theorem cut_len (l : List Nat) (lo hi : Option Int) : (cutL l lo hi).length ≤ l.length := by
  unfold cutL
  rw [List.length_take]
  rw [List.length_drop]
  omega
theorem cut_mem {l : List Nat} {lo hi : Option Int} {c : Nat} (h : c ∈ cutL l lo hi) : c ∈ l := List.mem_of_mem_drop (List.mem_of_mem_take h)
theorem ev_to {th : TO} {k : Nat} (ha : Ev ta σ H (tx a)) (h2 : EvO th σ H (some (k : Int))) (hz : a.length ≤ 1000000) : Ev (tSl rSlS ta tNoPart th) σ H (tx (a.take k)) := ev_slS ha Evl.eo_none h2 hz (cut_to a k)
theorem ev_from {tl : TO} {k : Nat} (ha : Ev ta σ H (tx a)) (h1 : EvO tl σ H (some (k : Int))) (hz : a.length ≤ 1000000) : Ev (tSl rSlS ta tl tNoPart) σ H (tx (a.drop k)) := ev_slS ha h1 Evl.eo_none hz (cut_from a k)
theorem ev_mid {tl th : TO} {j k : Nat} (ha : Ev ta σ H (tx a)) (h1 : EvO tl σ H (some (j : Int))) (h2 : EvO th σ H (some (k : Int))) (hz : a.length ≤ 1000000) : Ev (tSl rSlS ta tl th) σ H (tx ((a.take k).drop j)) := ev_slS ha h1 h2 hz (cut_mid a j k)
/-- a sign of a text -/
theorem ev_ixS {k : Nat} {c : Nat} (ha : Ev ta σ H (tx a)) (hb : Ev tb σ H (.int (k : Int))) (hz : a.length ≤ 1000000) (hc : a[k]? = some c) : Ev (tOp rIxS ta tb) σ H (tx [c]) :=
  ev_op ha hb fun H1 _ Q q => ⟨S a, (k : Int), c, rfl, rfl, by rw [S_len]; exact szm hz, by rw [tl_S]; exact atI_nat hc, q H1 (Ex.refl H1)⟩
theorem ev_inC {c : Nat} (ha : Ev ta σ H (tx [c])) (hb : Ev tb σ H (tx b)) :
    Ev (tOp (fun x y H Q => ∃ (c : Nat) (z : Str), x = .str ⟨#[c]⟩ ∧ y = .str z ∧ Q (.bl (decide (c ∈ z.cps.toList))) H) ta tb) σ H (.bl (decide (c ∈ b))) :=
  ev_op ha hb fun H1 _ Q q => ⟨c, S b, rfl, rfl, by rw [tl_S]; exact q H1 (Ex.refl H1)⟩
/-- methods -/
theorem ev_m1 {r : V → List V → Hp → VK → Prop} {a : Str} (ha : Ev ta σ H (.str a)) (hb : Ev tb σ H y) (hr : ∀ H1, Ex H H1 → ∀ Q : VK, (∀ H2, Ex H1 H2 → Q v H2) → r (.str a) [y] H1 Q) : Ev (tM1 r ta tb) σ H v :=
  fun H1 e Q q => ha H1 e _ fun H2 e2 => ⟨⟨a, rfl⟩, hb H2 (e.trans e2) _ fun H3 e3 => hr H3 ((e.trans e2).trans e3) Q fun H4 e4 => q H4 ((e2.trans e3).trans e4)⟩
theorem ev_end (ha : Ev ta σ H (tx a)) (hb : Ev tb σ H (tx b)) {k : Bool} (hk : Txt.endswith (S a) (S b) = k) : Ev (tM1 rEnd ta tb) σ H (.bl k) := by
  subst hk
  exact ev_m1 ha hb fun H1 _ Q q => ⟨S a, S b, rfl, rfl, q H1 (Ex.refl H1)⟩
theorem ev_cnt (ha : Ev ta σ H (tx a)) (hb : Ev tb σ H (tx b)) {k : Int} (hk : Txt.count (S a) (S b) = k) : Ev (tM1 rCnt ta tb) σ H (.int k) := by
  subst hk
  exact ev_m1 ha hb fun H1 _ Q q => ⟨S a, S b, rfl, rfl, q H1 (Ex.refl H1)⟩
theorem el_spl (ha : Ev ta σ H (tx a)) (hb : Ev tb σ H (tx b)) (h0 : b ≠ []) (h1 : b.all (· < 256) = true) (hz : a.length ≤ 900000) : EvL (tM1 rSpl ta tb) σ H ((TL.spl b 0 [] a).map tx) :=
  fun H1 e Q q => ha H1 e _ fun H2 e2 => ⟨⟨S a, rfl⟩, hb H2 (e.trans e2) _ fun H3 e3 => ⟨S a, S b, rfl, rfl, by
    rw [S_len]
    cases b with
    | nil => exact absurd rfl h0
    | cons c r => rfl, by rw [S_len]; exact szm (by omega), fun p hp => q p _ (fresh_back (e2.trans e3) hp) ((e2.trans e3).trans (Ex.new hp)) (by
      rw [upd_same, SX.split_S h0 h1, List.map_map]
      rfl)⟩⟩
theorem ev_joi {p : Addr} {ys : List (List Nat)} (hz : (ys.map List.length).sum + ys.length * a.length ≤ 1000000) (ha : Ev ta σ H (tx a)) (hb : Ev tb σ H (.ref p)) (hy : SqL K H p (ys.map tx)) : Ev (tM1 (rJoi K) ta tb) σ H (tx (TL.joinL a ys)) :=
  ev_m1 ha hb fun H1 e Q q => ⟨S a, p, ys.map S, rfl, rfl, .inl (by rw [List.map_map]; exact Evl.ex_l e hy), by
    rw [SX.lens, S_len, List.length_map]
    exact Nat.le_trans hz (by decide), by rw [SX.join_S]; exact q H1 (Ex.refl H1)⟩
theorem ev_joiN {ys : List (List Nat)} (hz : (ys.map List.length).sum + ys.length * a.length ≤ 1000000) (ha : Ev ta σ H (tx a)) (hb : EvL tb σ H (ys.map tx)) : Ev (tM1 (rJoi K) ta tb) σ H (tx (TL.joinL a ys)) :=
  fun H1 e Q q => ha H1 e _ fun H2 e2 => ⟨⟨S a, rfl⟩, hb H2 (e.trans e2) _ fun p H3 _ e3 hp => ⟨S a, p, ys.map S, rfl, rfl, .inl (by rw [List.map_map]; exact Evl.sq_of hp), by
    rw [SX.lens, S_len, List.length_map]
    exact Nat.le_trans hz (by decide), by rw [SX.join_S]; exact q H3 (e2.trans e3)⟩⟩
theorem ev_inS {k : Bool} (ha : Ev ta σ H (tx a)) (hb : Ev tb σ H (tx b)) (hk : (!(Builtin.Str.occurrences (S b) (S a) 0 (S b).length 1).isEmpty) = k) : Ev (tOp rInS ta tb) σ H (.bl k) := by
  subst hk
  exact ev_op ha hb fun H1 _ Q q => ⟨S a, S b, rfl, rfl, q H1 (Ex.refl H1)⟩
end
end Kb
set_option Elab.async false
set_option linter.all false
set_option maxRecDepth 100000
set_option maxHeartbeats 4000000
/-! KList: comprehensions, any, all, displays: what evaluates to what. -/
namespace Kb
open L2 PySem PySem.Spec PyProof.Rows
open SX (S S_len S_cat S_inj)
open Evl (Ev EvL EvU EvT EvA EvO Ex RV RC RCL SpV SpL ev_op sz_of sz_lt fresh_back ev_cb el_cb RetV RetL given Cw)
theorem wipe1 (σ : L2.St) (j : Nat) (x : Option V) : wipe ((wipe σ [j]).set j x) [j] = wipe σ [j] := by
  show ((σ.set j none).set j x).set j none = σ.set j none
  rw [List.set_set, List.set_set]
theorem wset (σ : L2.St) (j : Nat) (x : Option V) : (wipe σ [j]).set j x = σ.set j x := by
  show (σ.set j none).set j x = σ.set j x
  rw [List.set_set]
theorem given_all (n : Nat) (v : Nat → V) : given n (fun _ => true) v = (List.range n).map v := by
  unfold Evl.given
  rw [List.filter_eq_self.mpr (by intro a _; rfl)]
theorem given_filter (n : Nat) (f : Nat → Bool) (v : Nat → V) : given n f v = ((List.range n).filter f).map v := rfl
section
variable {K : PySem.W.Frag} {σ : L2.St} {H H' : Hp} {ta tb te tx1 : TE} {t u : TT} {a b : List Nat} {i j : Int} {x y z v : V}
theorem et_yes : EvT tYes σ H true := fun H1 _ Q q => q H1 (Ex.refl H1)
/-! over range(n) -/
theorem el_r1 {n : Int} {k : Nat} (f : Nat → Bool) (v : Nat → V) (h : Ev ta σ H (.int n)) (hn : 0 ≤ n ∧ n ≤ 40000)
    (ht : ∀ (i : Nat) H1, Ex H H1 → (i : Int) < n → EvT t (σ.set k (some (.int (i : Int)))) H1 (f i)) (he : ∀ (i : Nat) H1, Ex H H1 → (i : Int) < n → f i = true → Ev te (σ.set k (some (.int (i : Int)))) H1 (v i)) :
    EvL (tLc (iRng1 (tCons ta tNil)) (gName k) t te [k]) σ H (given n.toNat f v) :=
  Evl.el_lcR1 f v (Evl.ea_cons h Evl.ea_nil) hn (fun x => wipe1 σ k _) (fun i H1 e hi => by rw [wset]; exact ht i H1 e hi) fun i H1 e hi hf => by rw [wset]; exact he i H1 e hi hf
theorem el_r1a {n : Int} {k : Nat} (v : Nat → V) (h : Ev ta σ H (.int n)) (hn : 0 ≤ n ∧ n ≤ 40000)
    (he : ∀ (i : Nat) H1, Ex H H1 → (i : Int) < n → Ev te (σ.set k (some (.int (i : Int)))) H1 (v i)) :
    EvL (tLc (iRng1 (tCons ta tNil)) (gName k) tYes te [k]) σ H ((List.range n.toNat).map v) := by
  rw [← given_all]
  exact el_r1 _ v h hn (fun _ _ _ _ => et_yes) fun i H1 e hi _ => he i H1 e hi
/-! over range(lo, n) -/
theorem el_r2' {tr : TA} {lo n : Int} {k : Nat} (f : Nat → Bool) (v : Nat → V) (h : EvA tr σ H [.int lo, .int n]) (hn : 0 ≤ lo ∧ lo ≤ 40000 ∧ -40000 ≤ n ∧ n ≤ 40000)
    (ht : ∀ (i : Nat) H1, Ex H H1 → lo + (i : Int) < n → EvT t (σ.set k (some (.int (lo + (i : Int))))) H1 (f i)) (he : ∀ (i : Nat) H1, Ex H H1 → lo + (i : Int) < n → f i = true → Ev te (σ.set k (some (.int (lo + (i : Int))))) H1 (v i)) :
    EvL (tLc (iRng2 tr) (gName k) t te [k]) σ H (given (n - lo).toNat f v) := fun H0 e Q q => h H0 e _ fun H1 e1 => ⟨lo, n, rfl, ⟨by omega, by omega, by omega, by omega⟩, fun Dl hD =>
  lc_range (lo := lo) (n := (n - lo).toNat) (Cw H1 f v Dl) ⟨hD, Ex.new hD, upd_same⟩ (fun i H' hi p => by
    show wipe ((wipe σ [k]).set k (some (.int (lo + (i : Int))))) [k] = wipe σ [k] ∧ t ((wipe σ [k]).set k (some (.int (lo + (i : Int))))) H' fun b H3 => if b = true then te ((wipe σ [k]).set k (some (.int (lo + (i : Int))))) H3 fun y H4 => ∃ acc, H4 Dl = some (.lst acc) ∧ acc.length < sizeLine ∧ Cw H1 f v Dl (i + 1) (upd H4 Dl (.lst (acc ++ [y]))) else Cw H1 f v Dl (i + 1) H3
    rw [wset]
    exact ⟨by rw [← wset, wipe1], Evl.cw_turn p (by omega) (ht i H1 (e.trans e1) (by omega)) (fun hf => he i H1 (e.trans e1) (by omega) hf)⟩) (fun H' p => q Dl H' (fresh_back e1 p.1) (e1.trans p.2.1) p.2.2)⟩
theorem el_r2 {lo n : Int} {k : Nat} (f : Nat → Bool) (v : Nat → V) (hl : Ev ta σ H (.int lo)) (h : Ev tb σ H (.int n)) (hn : 0 ≤ lo ∧ lo ≤ 40000 ∧ -40000 ≤ n ∧ n ≤ 40000)
    (ht : ∀ (i : Nat) H1, Ex H H1 → lo + (i : Int) < n → EvT t (σ.set k (some (.int (lo + (i : Int))))) H1 (f i)) (he : ∀ (i : Nat) H1, Ex H H1 → lo + (i : Int) < n → f i = true → Ev te (σ.set k (some (.int (lo + (i : Int))))) H1 (v i)) :
    EvL (tLc (iRng2 (tCons ta (tCons tb tNil))) (gName k) t te [k]) σ H (given (n - lo).toNat f v) := el_r2' f v (Evl.ea_cons hl (Evl.ea_cons h Evl.ea_nil)) hn ht he
theorem el_r2a {lo n : Int} {k : Nat} (v : Nat → V) (hl : Ev ta σ H (.int lo)) (h : Ev tb σ H (.int n)) (hn : 0 ≤ lo ∧ lo ≤ 40000 ∧ -40000 ≤ n ∧ n ≤ 40000)
    (he : ∀ (i : Nat) H1, Ex H H1 → lo + (i : Int) < n → Ev te (σ.set k (some (.int (lo + (i : Int))))) H1 (v i)) :
    EvL (tLc (iRng2 (tCons ta (tCons tb tNil))) (gName k) tYes te [k]) σ H ((List.range (n - lo).toNat).map v) := by
  rw [← given_all]
  exact el_r2 _ v hl h hn (fun _ _ _ _ => et_yes) fun i H1 e hi _ => he i H1 e hi
/-! over a text -/
theorem lc_str {x : Str} {g : TG} {tt : TT} {te : TE} {vs : List Nat} {σ : L2.St} {H1 : Hp} {Dl : Addr} {Qd : Hp → Prop} (Pv : Nat → Hp → Prop) (h0 : Pv 0 (upd H1 Dl (.lst [])))
    (hs : ∀ j c H, x.cps[j]? = some c → Pv j H → g (.str ⟨#[c]⟩) (wipe σ vs) H fun σ2 H2 => wipe σ2 vs = wipe σ vs ∧ tt σ2 H2 fun yes H3 =>
      if yes = true then te σ2 H3 fun y H4 => ∃ acc, H4 Dl = some (.lst acc) ∧ acc.length < sizeLine ∧ Pv (j + 1) (upd H4 Dl (.lst (acc ++ [y]))) else Pv (j + 1) H3) (hd : ∀ H, Pv x.cps.size H → Qd H) :
    ∃ Wd : Nat → Nat → Hp → Prop, (∃ m, Wd 0 m (upd H1 Dl (.lst []))) ∧ ∀ j m H, Wd j m H → ((Its x).stop j H ∧ Qd H) ∨
      ((Its x).go j H ∧ ∃ Nx : Hp → Prop, (∀ H', Nx H' → ∃ m', m' < m ∧ Wd (j + 1) m' H') ∧ ∀ x1 H', (Its x).yld j H x1 H' → g x1 (wipe σ vs) H' fun σ2 H2 => wipe σ2 vs = wipe σ vs ∧ tt σ2 H2 fun yes H3 =>
        if yes = true then te σ2 H3 fun y H4 => ∃ acc, H4 Dl = some (.lst acc) ∧ acc.length < sizeLine ∧ Nx (upd H4 Dl (.lst (acc ++ [y]))) else Nx H3) := by
  refine ⟨fun j m H => m = x.cps.size - j ∧ j ≤ x.cps.size ∧ Pv j H, ⟨x.cps.size, by simp, Nat.zero_le _, h0⟩, fun j m H word => ?_⟩
  obtain ⟨rfl, hj, p⟩ := word
  by_cases more : j < x.cps.size
  · refine .inr ⟨more, Pv (j + 1), fun H' p' => ⟨x.cps.size - (j + 1), by omega, rfl, more, p'⟩, fun x1 H' y => ?_⟩
    obtain ⟨rfl, c, hc, rfl⟩ := y
    exact hs j c _ hc p
  · obtain rfl : j = x.cps.size := by omega
    exact .inl ⟨Nat.le_refl _, hd _ p⟩
/-- the i-th sign of l, as a text -/
theorem el_st {k : Nat} (f : Nat → Bool) (v : Nat → V) (h : Ev ta σ H (tx a)) (hn : a.length ≤ 40000)
    (ht : ∀ (i c : Nat) H1, Ex H H1 → a[i]? = some c → EvT t (σ.set k (some (tx [c]))) H1 (f i)) (he : ∀ (i c : Nat) H1, Ex H H1 → a[i]? = some c → f i = true → Ev te (σ.set k (some (tx [c]))) H1 (v i)) :
    EvL (tLc (iStr ta) (gName k) t te [k]) σ H (given a.length f v) := fun H0 e Q q => h H0 e _ fun H1 e1 => ⟨S a, rfl, fun Dl hD => by
  have hsz : (S a).cps.size = a.length := by simp [S]
  have L := lc_str (x := S a) (g := gName k) (tt := t) (te := te) (vs := [k]) (σ := σ) (H1 := H1) (Dl := Dl) (Qd := fun H' => Q (.ref Dl) H') (Cw H1 f v Dl) ⟨hD, Ex.new hD, upd_same⟩ (fun i c H' hc p => by
    have hc' : a[i]? = some c := by simpa [S] using hc
    have hi : i < a.length := (List.getElem?_eq_some_iff.mp hc').1
    show wipe ((wipe σ [k]).set k (some (tx [c]))) [k] = wipe σ [k] ∧ t ((wipe σ [k]).set k (some (tx [c]))) H' fun b H3 => if b = true then te ((wipe σ [k]).set k (some (tx [c]))) H3 fun y H4 => ∃ acc, H4 Dl = some (.lst acc) ∧ acc.length < sizeLine ∧ Cw H1 f v Dl (i + 1) (upd H4 Dl (.lst (acc ++ [y]))) else Cw H1 f v Dl (i + 1) H3
    rw [wset]
    exact ⟨by rw [← wset, wipe1], Evl.cw_turn p (by omega) (ht i c H1 (e.trans e1) hc') (fun hf => he i c H1 (e.trans e1) hc' hf)⟩) (fun H' p => by
      rw [hsz] at p
      exact q Dl H' (fresh_back e1 p.1) (e1.trans p.2.1) p.2.2)
  exact L⟩
theorem map_range_get (a : List Nat) (g : Nat → V) : (List.range a.length).map (fun i => g (a.getD i 0)) = a.map g := by
  apply List.ext_getElem
  · simp
  · intro i h1 h2
    simp at h1 h2 ⊢
    rw [List.getElem?_eq_getElem h1]
    rfl
theorem el_sta {k : Nat} (g : Nat → V) (h : Ev ta σ H (tx a)) (hn : a.length ≤ 40000)
    (he : ∀ (c : Nat) H1, Ex H H1 → c ∈ a → Ev te (σ.set k (some (tx [c]))) H1 (g c)) :
    EvL (tLc (iStr ta) (gName k) tYes te [k]) σ H (a.map g) := by
  have h2 := el_st (k := k) (t := tYes) (te := te) (fun _ => true) (fun i => g (a.getD i 0)) h hn (fun _ _ _ _ _ => et_yes) fun i c H1 e hc _ => by
    have e1 : a.getD i 0 = c := by simp [List.getD, hc]
    rw [e1]
    exact he c H1 e (List.mem_of_getElem? hc)
  rw [given_all, map_range_get] at h2
  exact h2
/-! over a list -/
theorem el_ls {p : Addr} {xs : List V} {k : Nat} (f : Nat → Bool) (v : Nat → V) (h : Ev ta σ H (.ref p)) (hx : SqL K H p xs) (hn : xs.length ≤ 40000)
    (ht : ∀ (i : Nat) (x : V) H1, Ex H H1 → xs[i]? = some x → EvT t (σ.set k (some x)) H1 (f i)) (he : ∀ (i : Nat) (x : V) H1, Ex H H1 → xs[i]? = some x → f i = true → Ev te (σ.set k (some x)) H1 (v i)) :
    EvL (tLc (iList K ta) (gName k) t te [k]) σ H (given xs.length f v) :=
  Evl.el_lcL f v h hx hn (fun x => wipe1 σ k _) (fun i x H1 e hi => by rw [wset]; exact ht i x H1 e hi) fun i x H1 e hi hf => by rw [wset]; exact he i x H1 e hi hf
theorem el_ln {xs : List V} {k : Nat} (f : Nat → Bool) (v : Nat → V) (h : EvL ta σ H xs) (hn : xs.length ≤ 40000)
    (ht : ∀ (i : Nat) (x : V) H1, Ex H H1 → xs[i]? = some x → EvT t (σ.set k (some x)) H1 (f i)) (he : ∀ (i : Nat) (x : V) H1, Ex H H1 → xs[i]? = some x → f i = true → Ev te (σ.set k (some x)) H1 (v i)) :
    EvL (tLc (iList K ta) (gName k) t te [k]) σ H (given xs.length f v) :=
  Evl.el_lcNL f v h hn (fun x => wipe1 σ k _) (fun i x H1 e hi => by rw [wset]; exact ht i x H1 e hi) fun i x H1 e hi hf => by rw [wset]; exact he i x H1 e hi hf
theorem map_range_idx {α : Type} (xs : List α) (d : α) (g : α → V) : (List.range xs.length).map (fun i => g (xs.getD i d)) = xs.map g := by
  apply List.ext_getElem
  · simp
  · intro i h1 h2
    simp at h1 h2 ⊢
    rw [List.getElem?_eq_getElem h1]
    rfl
/-- of a list that is m of something, every item kept -/
theorem el_lsa {α : Type} (d : α) (m g : α → V) {p : Addr} {xs : List α} {k : Nat} (h : Ev ta σ H (.ref p)) (hx : SqL K H p (xs.map m)) (hn : xs.length ≤ 40000)
    (he : ∀ (x : α) H1, Ex H H1 → x ∈ xs → Ev te (σ.set k (some (m x))) H1 (g x)) :
    EvL (tLc (iList K ta) (gName k) tYes te [k]) σ H (xs.map g) := by
  have h2 := el_ls (k := k) (t := tYes) (te := te) (fun _ => true) (fun i => g (xs.getD i d)) h hx (by rw [List.length_map]; exact hn) (fun _ _ _ _ _ => et_yes) fun i x H1 e hc _ => by
    rw [List.getElem?_map] at hc
    cases e2 : xs[i]? with
    | none => rw [e2] at hc; cases hc
    | some y =>
      rw [e2] at hc
      have e3 : m y = x := Option.some.inj hc
      subst e3
      have e4 : xs.getD i d = y := by simp [List.getD, e2]
      rw [e4]
      exact he y H1 e (List.mem_of_getElem? e2)
  rw [given_all, List.length_map, map_range_idx] at h2
  exact h2
theorem el_lna {α : Type} (d : α) (m g : α → V) {xs : List α} {k : Nat} (h : EvL ta σ H (xs.map m)) (hn : xs.length ≤ 40000)
    (he : ∀ (x : α) H1, Ex H H1 → x ∈ xs → Ev te (σ.set k (some (m x))) H1 (g x)) :
    EvL (tLc (iList K ta) (gName k) tYes te [k]) σ H (xs.map g) := by
  have h2 := el_ln (K := K) (k := k) (t := tYes) (te := te) (fun _ => true) (fun i => g (xs.getD i d)) h (by rw [List.length_map]; exact hn) (fun _ _ _ _ _ => et_yes) fun i x H1 e hc _ => by
    rw [List.getElem?_map] at hc
    cases e2 : xs[i]? with
    | none => rw [e2] at hc; cases hc
    | some y =>
      rw [e2] at hc
      have e3 : m y = x := Option.some.inj hc
      subst e3
      have e4 : xs.getD i d = y := by simp [List.getD, e2]
      rw [e4]
      exact he y H1 e (List.mem_of_getElem? e2)
  rw [given_all, List.length_map, map_range_idx] at h2
  exact h2
/-! any, all, max, min -/
theorem ev_any {bs : List Bool} (h : EvL te σ H (bs.map V.bl)) : Ev (tCB (rAny K) (tCons te tNil)) σ H (.bl (bs.any id)) := fun H1 e Q q => h H1 e _ fun p H2 _ e2 hp => ⟨p, bs, rfl, Evl.sq_of hp, q H2 e2⟩
theorem ev_all {bs : List Bool} (h : EvL te σ H (bs.map V.bl)) : Ev (tCB (rAll K) (tCons te tNil)) σ H (.bl (bs.all id)) := fun H1 e Q q => h H1 e _ fun p H2 _ e2 hp => ⟨p, bs, rfl, Evl.sq_of hp, q H2 e2⟩
theorem ev_anyM {α : Type} {xs : List α} {g : α → Bool} {b : Bool} (h : EvL te σ H (xs.map fun x => V.bl (g x))) (hb : xs.any g = b) : Ev (tCB (rAny K) (tCons te tNil)) σ H (.bl b) := by
  have e : (xs.map fun x => V.bl (g x)) = (xs.map g).map V.bl := by rw [List.map_map]; rfl
  rw [e] at h
  have h2 := ev_any (K := K) h
  rw [List.any_map] at h2
  rw [← hb]
  exact h2
theorem ev_allM {α : Type} {xs : List α} {g : α → Bool} {b : Bool} (h : EvL te σ H (xs.map fun x => V.bl (g x))) (hb : xs.all g = b) : Ev (tCB (rAll K) (tCons te tNil)) σ H (.bl b) := by
  have e : (xs.map fun x => V.bl (g x)) = (xs.map g).map V.bl := by rw [List.map_map]; rfl
  rw [e] at h
  have h2 := ev_all (K := K) h
  rw [List.all_map] at h2
  rw [← hb]
  exact h2
theorem ev_max2 {m : Int} (ha : Ev ta σ H (.int i)) (hb : Ev tb σ H (.int j)) (hm : max i j = m) : Ev (tCB (fun xs H Q => ∃ i j, xs = [V.int i, V.int j] ∧ Q (.int (if j > i then j else i)) H) (tCons ta (tCons tb tNil))) σ H (.int m) := fun H1 e Q q =>
  ha H1 e _ fun H2 e2 => hb H2 (e.trans e2) _ fun H3 e3 => ⟨i, j, rfl, by
    have e4 : (if j > i then j else i) = m := by
      rw [← hm]
      split <;> omega
    rw [e4]
    exact q H3 (e2.trans e3)⟩
theorem ev_min2 {m : Int} (ha : Ev ta σ H (.int i)) (hb : Ev tb σ H (.int j)) (hm : min i j = m) : Ev (tCB (fun xs H Q => ∃ i j, xs = [V.int i, V.int j] ∧ Q (.int (if j < i then j else i)) H) (tCons ta (tCons tb tNil))) σ H (.int m) := fun H1 e Q q =>
  ha H1 e _ fun H2 e2 => hb H2 (e.trans e2) _ fun H3 e3 => ⟨i, j, rfl, by
    have e4 : (if j < i then j else i) = m := by
      rw [← hm]
      split <;> omega
    rw [e4]
    exact q H3 (e2.trans e3)⟩
/-- items -/
theorem ev_ixL {p : Addr} {xs : List V} {k : Nat} (ha : Ev ta σ H (.ref p)) (hb : Ev tb σ H (.int (k : Int))) (hx : SqL K H p xs) (hc : xs[k]? = some v) : Ev (tOp (rIxL K) ta tb) σ H v :=
  ev_op ha hb (Evl.rv_ixL hx (atI_nat hc))
theorem ev_ixN {xs : List V} {k : Nat} (ha : EvL ta σ H xs) (hb : ∀ H1, Ex H H1 → Ev tb σ H1 (.int (k : Int))) (hc : xs[k]? = some v) : Ev (tOp (rIxL K) ta tb) σ H v :=
  Evl.ev_opL1 ha hb fun p H1 hp _ => Evl.rv_ixL (Evl.sq_of hp) (atI_nat hc)
theorem ev_ixT {p : Addr} {xs : List V} {k : Nat} (ha : Ev ta σ H (.ref p)) (hb : Ev tb σ H (.int (k : Int))) (hx : SqT K H p xs) (hc : xs[k]? = some v) : Ev (tOp (rIxT K) ta tb) σ H v :=
  ev_op ha hb (Evl.rv_ixT hx (atI_nat hc))
/-- the last item -/
theorem ev_last {p : Addr} {xs : List V} (ha : Ev ta σ H (.ref p)) (hx : SqL K H p (xs ++ [v])) : Ev (tOp (rIxL K) ta (tUn (rU fun i => .int (-i)) (tC (.int 1)))) σ H v :=
  ev_op ha (Evl.ev_un Evl.ev_c Evl.ru_neg) (Evl.rv_ixL hx (atI_last xs v))
/-! loops over a text -/
section
variable {D : Ends} {tu tz : TS}
theorem s_forS {k : Nat} (h : Ev ta σ H (tx a)) (Pv : Nat → L2.St → Hp → Prop) (h0 : ∀ H1, Ex H H1 → Pv 0 σ H1)
    (hs : ∀ i c σ' H', a[i]? = some c → Pv i σ' H' → tu { D with nx := Pv (i + 1), ct := Pv (i + 1), bk := D.nx } (σ'.set k (some (tx [c]))) H') (hd : ∀ σ' H', Pv a.length σ' H' → D.nx σ' H') : tFor (iStr ta) (gName k) tu D σ H :=
  h H (Ex.refl H) _ fun H1 e => ⟨S a, rfl, by
    have hsz : (S a).cps.size = a.length := by simp [S]
    refine ⟨fun i m σ' H' => m + i = a.length ∧ Pv i σ' H', ⟨a.length, rfl, h0 H1 e⟩, fun i m σ' H' hw => ?_⟩
    obtain ⟨hm, p⟩ := hw
    by_cases hlt : i < a.length
    · refine .inr ⟨by show i < (S a).cps.size; omega, fun σ2 H2 => Pv (i + 1) σ2 H2, fun σ2 H2 p2 => ⟨m - 1, by omega, by omega, p2⟩, fun x1 H2 y => ?_⟩
      obtain ⟨e1, c, hc, e2⟩ := y
      subst e1 e2
      exact hs i c σ' _ (by simpa [S] using hc) p
    · have e1 : i = a.length := by omega
      subst e1
      exact .inl ⟨by show (S a).cps.size ≤ a.length; omega, hd σ' H' p⟩⟩
theorem q_forS {k : Nat} (h : Ev ta σ H (tx a)) (Pv : Nat → L2.St → Hp → Prop) (h0 : ∀ H1, Ex H H1 → Pv 0 σ H1)
    (hs : ∀ i c σ' H', a[i]? = some c → Pv i σ' H' → tu { D with nx := Pv (i + 1), ct := Pv (i + 1), bk := tz D } (σ'.set k (some (tx [c]))) H') (hd : ∀ σ' H', Pv a.length σ' H' → tz D σ' H') : tSeq (tFor (iStr ta) (gName k) tu) tz D σ H :=
  s_forS (D := { D with nx := tz D }) h Pv h0 hs hd
end
end
end Kb
set_option Elab.async false
set_option linter.all false
set_option maxRecDepth 100000
set_option maxHeartbeats 4000000
/-! KInst: defs made from the head's facts; isinstance. -/
namespace Kb
open L2 PySem PySem.Spec PyProof.Rows
open SX (S S_len S_cat S_inj)
open Evl (Ev EvL EvU EvT EvA EvO Ex RV RC RCL SpV SpL ev_op sz_of sz_lt fresh_back ev_cb el_cb RetV RetL)
section
variable {P : Program} {w : World} {K : PySem.W.Frag} {mg : Str → Option Value} {base : Heap} {x name qual : Str} {params : Arguments} {body : List Stmt} {scope : Scope} {f : Addr} {N ps : List Str} {k : Nat} {sp : Sp}
theorem mkDef0 (hF : ∃ fd, FunD K name qual params body scope [] [] f fd) (hm : mg x = some (.ref f)) (S : FnScope N ps scope) (len : ∀ vs H Q E, sp vs H Q E → vs.length = ps.length)
    (hb : ∀ (kV doc pm : Value) (an : Option Addr) (cdv ct : Value) (us : List Value), us.length = ps.length → bindArgs (PySem.W.fnOf name qual params body scope .none kV doc pm an cdv ct) ⟨us, []⟩ = pure (ps.zip us))
    (hbody : ∀ (cdv : Value) (A : Around) (outer : List Env) (s : Shared) (H : Hp) (vs : List V) (Q : VK) (E : XK),
      Room k (A.deeper (envOfC qual scope s.heap.objs.size f cdv)) → sp vs H Q E → ∃ t, PSs (cxOf CX0 P w K mg base N qual scope f cdv A outer s H E).nox body t ∧ t { nx := fun _ H' => Q .non H', rt := Q } (start N vs) H) : DefOk P w K mg base CX0 x (k + 1) ps sp := by
  obtain ⟨fd, F⟩ := hF
  exact ⟨f, fd, hm, F.kp, FunD.bindsN F hb, F.ok S len fun cdv A outer s H vs Q E hr h => by
    obtain ⟨t, h1, h2⟩ := hbody cdv A outer s H vs Q E hr h
    exact ⟨t, h1.nox, h2⟩⟩
theorem mkDefX {CX : CXT} (hF : ∃ fd, FunD K name qual params body scope [] [] f fd) (hm : mg x = some (.ref f)) (S : FnScope N ps scope) (len : ∀ vs H Q E, sp vs H Q E → vs.length = ps.length)
    (hb : ∀ (kV doc pm : Value) (an : Option Addr) (cdv ct : Value) (us : List Value), us.length = ps.length → bindArgs (PySem.W.fnOf name qual params body scope .none kV doc pm an cdv ct) ⟨us, []⟩ = pure (ps.zip us))
    (hbody : ∀ (cdv : Value) (A : Around) (outer : List Env) (s : Shared) (H : Hp) (vs : List V) (Q : VK) (E : XK),
      Room k (A.deeper (envOfC qual scope s.heap.objs.size f cdv)) → sp vs H Q E → ∃ t, PSs (cxOf CX P w K mg base N qual scope f cdv A outer s H E) body t ∧ t { nx := fun _ H' => Q .non H', rt := Q } (start N vs) H) : DefOk P w K mg base CX x (k + 1) ps sp := by
  obtain ⟨fd, F⟩ := hF
  exact ⟨f, fd, hm, F.kp, FunD.bindsN F hb, F.ok S len hbody⟩
end
section
variable {K : PySem.W.Frag} {σ : L2.St} {H H' : Hp} {ta tb te : TE} {t u : TT} {a b : List Nat} {i j : Int} {x y z v : V}
theorem TyX.mono {t : Value} (h : TyX K H x t) (e : Ex H H') : TyX K H' x t := by
  cases h with
  | base h =>
    cases h with
    | non => exact .base .non
    | bl x => exact .base (.bl x)
    | int i => exact .base (.int i)
    | str x => exact .base (.str x)
    | flt x => exact .base (.flt x)
    | lst q => exact .base (.lst (e _ _ q))
    | frz q => exact .base (.frz (e _ _ q))
    | tup q => exact .base (.tup (e _ _ q))
    | dK q => exact .base (.dK (e _ _ q))
    | dT q => exact .base (.dT (e _ _ q))
    | ins q a b c d f => exact .base (.ins (e _ _ q) a b c d f)
  | byt b => exact .byt b
  | set q => exact .set (e _ _ q)
  | kList q c => exact .kList q c
  | kTuple q c => exact .kTuple q c
  | kDict q c => exact .kDict q c
  | fTuple q => exact .fTuple (e _ _ q)
  | fDict q => exact .fDict (e _ _ q)
/-- what isinstance(x, n) answers -/
def IsA (K : PySem.W.Frag) (H : Hp) (x : V) (n : String) (b : Bool) : Prop := ∃ t, TyX K H x t ∧ PySem.W.kitOne K t (.type n) = some b
theorem IsA.mono {n : String} {k : Bool} (h : IsA K H x n k) (e : Ex H H') : IsA K H' x n k := by
  obtain ⟨t, h1, h2⟩ := h
  exact ⟨t, TyX.mono h1 e, h2⟩
theorem ev_isi {n : String} {k : Bool} (h : Ev ta σ H x) (hx : IsA K H x n k) : Ev (tCB (rIsi K) (tCons ta (tCons (tC (.ty n)) tNil))) σ H (.bl k) := fun H1 e Q q => h H1 e _ fun H2 e2 => by
  obtain ⟨t, h1, h2⟩ := hx.mono (e.trans e2)
  exact ⟨x, .ty n, t, .type n, k, rfl, .ty n, h1, h2, q H2 e2⟩
theorem isA_str (a : Str) (n : String) {k : Bool} (h : kitB "str" n = some k) : IsA K H (.str a) n k := ⟨_, .base (.str a), kit_ty h⟩
theorem isA_int (a : Int) (n : String) {k : Bool} (h : kitB "int" n = some k) : IsA K H (.int a) n k := ⟨_, .base (.int a), kit_ty h⟩
theorem isA_bl (a : Bool) (n : String) {k : Bool} (h : kitB "bool" n = some k) : IsA K H (.bl a) n k := ⟨_, .base (.bl a), kit_ty h⟩
theorem isA_non (n : String) {k : Bool} (h : kitB "NoneType" n = some k) : IsA K H .non n k := ⟨_, .base .non, kit_ty h⟩
theorem isA_lst {p : Addr} {xs : List V} (n : String) {k : Bool} (hp : H p = some (.lst xs)) (h : kitB "list" n = some k) : IsA K H (.ref p) n k := ⟨_, .base (.lst hp), kit_ty h⟩
theorem isA_tup {p : Addr} {xs : List V} (n : String) {k : Bool} (hp : H p = some (.tup xs)) (h : kitB "tuple" n = some k) : IsA K H (.ref p) n k := ⟨_, .base (.tup hp), kit_ty h⟩
theorem pe_globI {X : Cx} {x : Str} {i : Int} {pos : Pos} (hg : Gl X x) (h : ∃ t, X.mg x = some (.int i t)) (hdb : (x == ("__debug__" : Str)) = false := by decide) : PE X (.Name x pos) (tC (.int i)) := by
  obtain ⟨t, e⟩ := h
  exact pe_glob (v := .int i) hg e ⟨t, rfl⟩ hdb
theorem pe_globS {X : Cx} {x : Str} {z : Str} {l : List Nat} {pos : Pos} (hg : Gl X x) (h : ∃ t, X.mg x = some (.str z t)) (e : z = S l) (hdb : (x == ("__debug__" : Str)) = false := by decide) : PE X (.Name x pos) (tC (tx l)) := by
  subst e
  obtain ⟨t, e⟩ := h
  exact pe_glob (v := tx l) hg e ⟨t, rfl⟩ hdb
/-- tests -/
theorem et_ev {k : Bool} (h : Ev te σ H (.bl k)) : EvT (tTest te) σ H k := Evl.et_test h
end
/-! ### rules that name the written part -/
section
variable {X : Cx} (K : PySem.W.Frag)
theorem ixL (h : X.K = K := by rfl) : IxR X (rIxL K) := by
  subst h
  exact ix_list
theorem ixT (h : X.K = K := by rfl) : IxR X (rIxT K) := by
  subst h
  exact ix_tup
theorem clnL (h : X.K = K := by rfl) : CallR X (.builtin "len") (rLnL K) := by
  subst h
  exact cl_lnL
theorem inSeq (h : X.K = K := by rfl) : OpR X (compareOp .In) (rIn K false) := by
  subst h
  exact op_in_seq
theorem ninSeq (h : X.K = K := by rfl) : OpR X (compareOp .NotIn) (rIn K true) := by
  subst h
  exact op_notIn_seq
theorem isiK (h : X.K = K := by rfl) : CallR X (.builtin "isinstance") (rIsi K) := by
  subst h
  exact call_isi
theorem isiTK (h : X.K = K := by rfl) : CallR X (.builtin "isinstance") (rIsiT K) := by
  subst h
  exact call_isiT
theorem anyK (h : X.K = K := by rfl) (hc : X.calm = true := by rfl) : CallR X (.builtin "any") (rAny K) := by
  subst h
  exact cr_any hc
theorem allK (h : X.K = K := by rfl) (hc : X.calm = true := by rfl) : CallR X (.builtin "all") (rAll K) := by
  subst h
  exact cr_all hc
theorem maxK (h : X.K = K := by rfl) (hc : X.calm = true := by rfl) : CallR X (.builtin "max") (rMax K) := by
  subst h
  exact cr_max hc
theorem minK (h : X.K = K := by rfl) (hc : X.calm = true := by rfl) : CallR X (.builtin "min") (rMin K) := by
  subst h
  exact cr_min hc
theorem joiK (h : X.K = K := by rfl) : MtR X "str.join" (rJoi K) := by
  subst h
  exact m_joi
theorem slLK (h : X.K = K := by rfl) : SlR X (rSlL K) := by
  subst h
  exact sl_list
theorem piLK {tg l : Expr} {tl : TE} (hl : PE X l tl) (h : X.K = K := by rfl) : PI X tg l (iList K tl) := by
  subst h
  exact pi_list hl
theorem piTK {tg l : Expr} {tl : TE} (hl : PE X l tl) (h : X.K = K := by rfl) : PI X tg l (iTup K tl) := by
  subst h
  exact pi_tup hl
end
end Kb
set_option Elab.async false
set_option linter.all false
set_option maxRecDepth 100000
set_option maxHeartbeats 4000000
/-! KMore: products, lists put together, replace. -/
namespace Kb
open L2 PySem PySem.Spec PyProof.Rows
open SX (S S_len S_cat S_inj)
open Evl (Ev EvL EvU EvT EvA EvO Ex RV RC RCL SpV SpL ev_op sz_of sz_lt fresh_back ev_cb el_cb RetV RetL)
section
variable {K : PySem.W.Frag} {σ : L2.St} {H H' : Hp} {ta tb te : TE} {t u : TT} {a b : List Nat} {i j : Int} {x y z v : V} {xs ys : List V}
theorem ev_mul {m : Int} (ha : Ev ta σ H (.int i)) (hb : Ev tb σ H (.int j)) (h : (-(2 ^ 64) < i ∧ i < 2 ^ 64) ∨ (-(2 ^ 64) < j ∧ j < 2 ^ 64)) (hm : i * j = m) : Ev (tOp (rI CMul fun i j => .int (i * j)) ta tb) σ H (.int m) := by
  subst hm
  exact ev_op ha hb (Evl.rv_I h)
theorem ev_pow {m : Int} (ha : Ev ta σ H (.int i)) (hb : Ev tb σ H (.int j)) (h : 0 ≤ j ∧ j ≤ 1000000 ∧ i.natAbs < 2 ^ 64) (hm : i ^ j.toNat = m) : Ev (tOp (rI CPow fun i j => .int (i ^ j.toNat)) ta tb) σ H (.int m) := by
  subst hm
  exact ev_op ha hb (Evl.rv_I h)
theorem el_catN (ha : EvL ta σ H xs) (hb : ∀ H1, Ex H H1 → EvL tb σ H1 ys) (hz : xs.length + ys.length ≤ 1000000) : EvL (tOp rCat ta tb) σ H (xs ++ ys) := fun H1 e Q q =>
  ha H1 e _ fun p H2 hp e2 h2 => hb H2 (e.trans e2) H2 (Ex.refl H2) _ fun r H3 hr e3 h3 => ⟨p, r, xs, ys, rfl, rfl, e3 _ _ h2, h3, szm hz, fun o ho => q o _ (fresh_back (e2.trans e3) ho) ((e2.trans e3).trans (Ex.new ho)) upd_same⟩
theorem el_catV {p : Addr} (hp : H p = some (.lst xs)) (ha : Ev ta σ H (.ref p)) (hb : EvL tb σ H ys) (hz : xs.length + ys.length ≤ 1000000) : EvL (tOp rCat ta tb) σ H (xs ++ ys) := fun H1 e Q q =>
  ha H1 e _ fun H2 e2 => hb H2 (e.trans e2) _ fun r H3 hr e3 h3 => ⟨p, r, xs, ys, rfl, rfl, ((e.trans e2).trans e3) _ _ hp, h3, szm hz, fun o ho => q o _ (fresh_back (e2.trans e3) ho) ((e2.trans e3).trans (Ex.new ho)) upd_same⟩
theorem el_rep {k : Int} (ha : EvL ta σ H xs) (hb : ∀ H1, Ex H H1 → Ev tb σ H1 (.int k)) (h1 : 0 ≤ k ∧ k < 1000000) (hz : xs.length * k.toNat ≤ 1000000) : EvL (tOp rRep ta tb) σ H (List.replicate k.toNat xs).flatten := fun H1 e Q q =>
  ha H1 e _ fun p H2 hp e2 h2 => hb H2 (e.trans e2) H2 (Ex.refl H2) _ fun H3 e3 => ⟨p, k, xs, rfl, rfl, e3 _ _ h2, by omega, by omega, szm hz, fun o ho => q o _ (fresh_back (e2.trans e3) ho) ((e2.trans e3).trans (Ex.new ho)) upd_same⟩
/-- a promise that makes a list of which something is said -/
theorem el_forget (h : EvL te σ H xs) {Q : VK} (k : ∀ p H2, H p = none → Ex H H2 → H2 p = some (.lst xs) → Q (.ref p) H2) : te σ H Q := h H (Ex.refl H) Q k
end
end Kb
set_option Elab.async false
set_option linter.all false
set_option maxRecDepth 100000
set_option maxHeartbeats 4000000
/-! KPlus: membership, least and greatest, range below zero. -/
namespace Kb
open L2 PySem PySem.Spec PyProof.Rows
open SX (S S_len S_cat S_inj)
open Evl (Ev EvL EvU EvT EvA EvO Ex RV RC RCL SpV SpL ev_op sz_of sz_lt fresh_back ev_cb el_cb RetV RetL given Cw)
theorem eqV_tx (a b : List Nat) : eqV (tx a) (tx b) = decide (a = b) := by
  show (S a == S b) = decide (a = b)
  by_cases h : a = b
  · subst h
    simp
  · rw [decide_eq_false h]
    have : S a ≠ S b := fun e => h (S_inj e)
    simpa using this
theorem inV_tx (x : List Nat) (ys : List (List Nat)) : inV (tx x) (ys.map tx) = decide (x ∈ ys) := by
  unfold inV
  rw [List.any_map]
  apply Bool.eq_iff_iff.mpr
  rw [List.any_eq_true, decide_eq_true_iff]
  constructor
  · rintro ⟨y, hy, e⟩
    have e : eqV (tx y) (tx x) = true := e
    rw [eqV_tx] at e
    have := of_decide_eq_true e
    subst this
    exact hy
  · intro h
    refine ⟨x, h, ?_⟩
    show eqV (tx x) (tx x) = true
    rw [eqV_tx]
    exact decide_eq_true rfl
theorem inV_int (x : Int) (ys : List Int) : inV (.int x) (ys.map V.int) = decide (x ∈ ys) := by
  unfold inV
  rw [List.any_map]
  apply Bool.eq_iff_iff.mpr
  rw [List.any_eq_true, decide_eq_true_iff]
  constructor
  · rintro ⟨y, hy, e⟩
    have e : (y == x) = true := e
    have := eq_of_beq e
    subst this
    exact hy
  · intro h
    exact ⟨x, h, show (x == x) = true by simp⟩
theorem flat_tx (ys : List (List Nat)) : (ys.map tx).all flatV = true := by
  rw [List.all_map, List.all_eq_true]
  intro _ _
  rfl
theorem flat_int (ys : List Int) : (ys.map V.int).all flatV = true := by
  rw [List.all_map, List.all_eq_true]
  intro _ _
  rfl
def minI : List Int → Int
  | [] => 0
  | [x] => x
  | x :: y :: r => if x ≤ minI (y :: r) then x else minI (y :: r)
theorem minI_ok : ∀ (l : List Int), 0 < l.length → minI l ∈ l ∧ ∀ y ∈ l, minI l ≤ y
  | [], h => by cases h
  | [x], _ => ⟨List.mem_cons_self, fun y hy => by
    have : y = x := by simpa using hy
    subst this
    exact Int.le_refl _⟩
  | x :: y :: r, _ => by
    obtain ⟨h1, h2⟩ := minI_ok (y :: r) (by simp)
    unfold minI
    split
    · rename_i hx
      refine ⟨List.mem_cons_self, fun z hz => ?_⟩
      rcases List.mem_cons.mp hz with rfl | old
      · exact Int.le_refl _
      · exact Int.le_trans hx (h2 z old)
    · rename_i hx
      refine ⟨List.mem_cons_of_mem _ h1, fun z hz => ?_⟩
      rcases List.mem_cons.mp hz with rfl | old
      · omega
      · exact h2 z old
def maxI : List Int → Int
  | [] => 0
  | [x] => x
  | x :: y :: r => if maxI (y :: r) ≤ x then x else maxI (y :: r)
theorem maxI_ok : ∀ (l : List Int), 0 < l.length → maxI l ∈ l ∧ ∀ y ∈ l, y ≤ maxI l
  | [], h => by cases h
  | [x], _ => ⟨List.mem_cons_self, fun y hy => by
    have : y = x := by simpa using hy
    subst this
    exact Int.le_refl _⟩
  | x :: y :: r, _ => by
    obtain ⟨h1, h2⟩ := maxI_ok (y :: r) (by simp)
    unfold maxI
    split
    · rename_i hx
      refine ⟨List.mem_cons_self, fun z hz => ?_⟩
      rcases List.mem_cons.mp hz with rfl | old
      · exact Int.le_refl _
      · exact Int.le_trans (h2 z old) hx
    · rename_i hx
      refine ⟨List.mem_cons_of_mem _ h1, fun z hz => ?_⟩
      rcases List.mem_cons.mp hz with rfl | old
      · omega
      · exact h2 z old
section
variable {K : PySem.W.Frag} {σ : L2.St} {H H' : Hp} {ta tb te : TE} {t u : TT} {a b : List Nat} {i j : Int} {x y z v : V}
theorem ev_minL {p : Addr} {ns : List Int} (ha : Ev ta σ H (.ref p)) (hs : SqL K H p (ns.map V.int)) (h0 : 0 < ns.length) : Ev (tCB (rMin K) (tCons ta tNil)) σ H (.int (minI ns)) :=
  fun H1 e Q q => ha H1 e _ fun H2 e2 => ⟨p, ns, rfl, Evl.ex_l (e.trans e2) hs, h0, fun m h1 h2 => by
    obtain ⟨h3, h4⟩ := minI_ok ns h0
    have h5 : m = minI ns := Int.le_antisymm (h2 _ h3) (h4 _ h1)
    rw [h5]
    exact q H2 e2⟩
theorem ev_maxN {ns : List Int} (ha : EvL ta σ H (ns.map V.int)) (h0 : 0 < ns.length) : Ev (tCB (rMax K) (tCons ta tNil)) σ H (.int (maxI ns)) :=
  fun H1 e Q q => ha H1 e _ fun p H2 _ e2 hp => ⟨p, ns, rfl, Evl.sq_of hp, h0, fun m h1 h2 => by
    obtain ⟨h3, h4⟩ := maxI_ok ns h0
    have h5 : m = maxI ns := Int.le_antisymm (h4 _ h1) (h2 _ h3)
    rw [h5]
    exact q H2 e2⟩
/-- range(n) where n may lie below zero -/
theorem el_r1n {n : Int} {k : Nat} (v : Nat → V) (h : Ev ta σ H (.int n)) (hn : -40000 ≤ n ∧ n ≤ 40000)
    (he : ∀ (i : Nat) H1, Ex H H1 → (i : Int) < n → Ev te (σ.set k (some (.int (i : Int)))) H1 (v i)) :
    EvL (tLc (iRng1 (tCons ta tNil)) (gName k) tYes te [k]) σ H ((List.range n.toNat).map v) := by
  by_cases h0 : 0 ≤ n
  · exact el_r1a v h ⟨h0, hn.2⟩ he
  · have e0 : n.toNat = 0 := by omega
    rw [e0]
    intro H0 e Q q
    refine h H0 e _ fun H1 e1 => ⟨n, rfl, by omega, by omega, fun Dl hD => ?_⟩
    rw [e0]
    exact lc_range (lo := 0) (n := 0) (Cw H1 (fun _ => true) v Dl) ⟨hD, Ex.new hD, upd_same⟩ (fun i H' hi p => by omega) (fun H' p => q Dl H' (fresh_back e1 p.1) (e1.trans p.2.1) p.2.2)
theorem ev_inTx {ys : List (List Nat)} (ha : Ev ta σ H (tx a)) (hb : EvL tb σ H (ys.map tx)) : Ev (tOp (rIn K false) ta tb) σ H (.bl (decide (a ∈ ys))) := by
  have h := Evl.ev_opL ha hb (fun p H1 hp _ => Evl.rv_isL (K := K) (H := H1) (Evl.sq_of hp) (x := tx a) rfl (flat_tx ys))
  rw [inV_tx] at h
  exact h
theorem ev_inTxT {p : Addr} {ys : List (List Nat)} (ha : Ev ta σ H (tx a)) (hb : Ev tb σ H (.ref p)) (hs : SqT K H p (ys.map tx)) : Ev (tOp (rIn K false) ta tb) σ H (.bl (decide (a ∈ ys))) := by
  have h := ev_op ha hb (Evl.rv_isT (x := tx a) hs rfl (flat_tx ys))
  rw [inV_tx] at h
  exact h
theorem ev_inI {ys : List Int} (ha : Ev ta σ H (.int i)) (hb : EvL tb σ H (ys.map V.int)) : Ev (tOp (rIn K false) ta tb) σ H (.bl (decide (i ∈ ys))) := by
  have h := Evl.ev_opL ha hb (fun p H1 hp _ => Evl.rv_isL (K := K) (H := H1) (Evl.sq_of hp) (x := .int i) rfl (flat_int ys))
  rw [inV_int] at h
  exact h
theorem ev_inIL {p : Addr} {ys : List Int} (ha : Ev ta σ H (.int i)) (hb : Ev tb σ H (.ref p)) (hs : SqL K H p (ys.map V.int)) : Ev (tOp (rIn K false) ta tb) σ H (.bl (decide (i ∈ ys))) := by
  have h := ev_op ha hb (Evl.rv_isL (x := .int i) hs rfl (flat_int ys))
  rw [inV_int] at h
  exact h
end
end Kb
set_option Elab.async false
set_option linter.all false
set_option maxRecDepth 100000
set_option maxHeartbeats 4000000
/-! KRepl: replace of written texts behind len; index of a sign; joins. -/
namespace Kb
open L2 PySem PySem.Spec PyProof.Rows
open SX (S S_len S_cat S_inj)
open Evl (Ev EvL EvU EvT EvA EvO Ex RV RC RCL SpV SpL ev_op sz_of sz_lt fresh_back ev_cb el_cb RetV RetL given Cw)
abbrev Sm (n : Nat) (b : List Nat) : Prop := b.length ≤ n ∧ ∀ c ∈ b, c < 128
theorem Sm.up {n m : Nat} {b : List Nat} (h : Sm n b) (hn : n ≤ m) : Sm m b := ⟨Nat.le_trans h.1 hn, h.2⟩
theorem Sm.app {n m : Nat} {a b : List Nat} (h : Sm n a) (h2 : Sm m b) : Sm (n + m) (a ++ b) := ⟨by rw [List.length_append]; have := h.1; have := h2.1; omega, fun c hc => (List.mem_append.mp hc).elim (h.2 c) (h2.2 c)⟩
theorem Sm.cut {n : Nat} {a : List Nat} {lo hi : Option Int} (h : Sm n a) : Sm n (cutL a lo hi) := ⟨Nat.le_trans (cut_len a lo hi) h.1, fun c hc => h.2 c (cut_mem hc)⟩
theorem Sm.sub {n m : Nat} {a b : List Nat} (h : Sm n a) (hb : ∀ c ∈ b, c ∈ a) (hl : b.length ≤ m) : Sm m b := ⟨hl, fun c hc => h.2 c (hb c hc)⟩
theorem repl_mem {y z : List Nat} {c : Nat} : ∀ (k : Nat) (l : List Nat), c ∈ PySem.StrLaws.replS y z k l → c ∈ l ∨ c ∈ z
  | 0, [], h => by
    rw [PySem.StrLaws.replS] at h
    cases h
  | k + 1, [], h => by
    rw [PySem.StrLaws.replS] at h
    cases h
  | k + 1, d :: r, h => by
    rw [PySem.StrLaws.replS] at h
    exact (repl_mem k r h).imp (fun z => List.mem_cons_of_mem _ z) id
  | 0, d :: r, h => by
    rw [PySem.StrLaws.replS] at h
    split at h
    · exact (List.mem_append.mp h).elim Or.inr fun later => (repl_mem _ r later).imp (fun z => List.mem_cons_of_mem _ z) id
    · rcases List.mem_cons.mp h with h | h
      · exact Or.inl (by rw [h]; exact List.mem_cons_self)
      · exact (repl_mem 0 r h).imp (fun z => List.mem_cons_of_mem _ z) id
def rIdx : V → List V → Hp → VK → Prop := fun x xs H Q => ∃ a b i rest, x = .str a ∧ xs = [.str b] ∧ Builtin.Str.occurrences a b 0 a.length 1 = i :: rest ∧ Q (.int (i : Nat)) H
section
variable {X : Cx} {rest : List Stmt} {u : TS} {i : Nat} {x : Str} {e : Expr} {te : TE}
theorem m_idx : MtR X "str.index" rIdx := mt_sindex
/-- n = len(e), e a text: behind it a token is out -/
theorem pss_lenS {p1 p2 p3 p4 : Pos} {ta : TA} (hN : X.N.Nodup) (hi : X.N[i]? = some x) (hx : Loc X.env.scope x) (hg : Gl X "len") (hm : X.mg "len" = none) (hv : bootBuiltins "len" = some (.builtin "len")) (ha : PA X [e] ta)
    (h2 : PSsT X rest u) (he : starEach [e] X.env = (false, eval e X.env) :: starEach [] X.env := by rfl) (hpl : (backTo p3 (starEach [] X.env)).any (·.1) = false := by rfl)
    (hs : swapsWith (.Call (.Name "len" p2) [e] [] p3) (some (.Name x p1)) p4.line X.env = pure false := by rfl) (hf : X.fn x = true ∨ X.env.scope.names.lookup x = some .local := by first | exact .inl rfl | exact .inr rfl | assumption) :
    PSs X (.Assign [.Name x p1] (.Call (.Name "len" p2) [e] [] p3) p4 :: rest) (tSeq (tAsg (tCB rLnS ta) (gName i)) u) := by
  refine ⟨fun pins s σ H D inv wish => ?_⟩
  refine wpAny_execs_cons (wpAny_Assign_Name (wpAny_Call_Name_kw (ld_blt inv hg hm hv ?_ (by decide) (by decide))) hs)
  refine PyProof.Rows.callWith_builtin1 (thn (ha.run p3 pins s σ H _ inv wish) fun us s1 ⟨vs, H1, I1, r1, q1⟩ => ?_) he hpl
  obtain ⟨z, rfl, hz, q⟩ := q1
  obtain ⟨u1, rfl, t, rfl⟩ := vals1 r1
  have hn := line63
  refine len_str (by omega) (wpAny_mono (PySem.wpAny_toks (store_ok (v := V.int z.length) (Q := fun _ s2 => Inv X pins (σ.set i (some (V.int z.length))) H1 s2) (I1.tok _) hN hi hx ⟨_, rfl⟩ (fun _ I2 => I2) hf)) (fun _ s2 q2 => ?_) fun _ _ z => z.2)
  have hk : s1.toks + 1 + 1 ≤ s2.toks := q2.1
  exact h2 pins s2 _ H1 D (by omega) q2.2 q
theorem pst_setT {p1 p2 : Pos} (hN : X.N.Nodup) (hi : X.N[i]? = some x) (hx : Loc X.env.scope x) (he : PET X e te) (hs : swapsWith e (some (.Name x p1)) p2.line X.env = pure false := by rfl) (hf : X.fn x = true ∨ X.env.scope.names.lookup x = some .local := by first | exact .inl rfl | exact .inr rfl | assumption) :
    PST X (.Assign [.Name x p1] e p2) (tAsg te (gName i)) := by
  intro pins s σ H D h0 I h
  refine wpAny_Assign_Name (thn (he pins s σ H _ h0 I h) fun v s1 q => ?_) hs
  obtain ⟨y, H1, I1, r1, q1⟩ := q
  exact store_ok I1 hN hi hx r1 (fun _ after => ⟨_, H1, after, q1⟩) hf
end
section
variable {K : PySem.W.Frag} {σ : L2.St} {H H' : Hp} {ta tb te : TE} {a b : List Nat} {i j : Int} {x y z v : V}
theorem ev_idx {k : Nat} {r : List Nat} (ha : Ev ta σ H (tx a)) (hb : Ev tb σ H (tx b)) (hk : Builtin.Str.occurrences (S a) (S b) 0 (S a).length 1 = k :: r) : Ev (tM1 rIdx ta tb) σ H (.int (k : Int)) :=
  ev_m1 ha hb fun H1 _ Q q => ⟨S a, S b, k, r, rfl, rfl, hk, q H1 (Ex.refl H1)⟩
/-- what a text of at most n signs, all below 128, is worth -/
def EvB (te : TE) (σ : L2.St) (H : Hp) (n : Nat) : Prop := ∃ b : List Nat, Sm n b ∧ Ev te σ H (tx b)
theorem evB_v {n : Nat} (h : Ev te σ H (tx a)) (hn : Sm n a) : EvB te σ H n := ⟨a, hn, h⟩
theorem evB_sl {tl th : TO} {lo hi : Option Int} {n : Nat} (ha : EvB ta σ H n) (h1 : EvO tl σ H lo) (h2 : EvO th σ H hi) (hz : n ≤ 1000000) : EvB (tSl rSlS ta tl th) σ H n := by
  obtain ⟨b, hb, h⟩ := ha
  exact ⟨_, Sm.cut hb, ev_slS h h1 h2 (Nat.le_trans hb.1 hz) rfl⟩
theorem evB_ad {n m : Nat} (ha : EvB ta σ H n) (hb : EvB tb σ H m) (hz : n + m ≤ 1000000) : EvB (tOp rAdS ta tb) σ H (n + m) := by
  obtain ⟨a, h1, h2⟩ := ha
  obtain ⟨b, h3, h4⟩ := hb
  exact ⟨a ++ b, Sm.app h1 h3, ev_adS h2 h4 (by have := h1.1; have := h3.1; omega)⟩
theorem evB_rpl {p q : Str} {n : Nat} (ha : EvB ta σ H n) (hz : n ≤ 100000) (hp : 1 ≤ p.length) (hq : q.length = 1) (hq2 : ∀ c ∈ q.cps.toList, c < 128) : EvB (CwR.tReplC ta p q) σ H (2 * n + 1) := by
  obtain ⟨a, hl, ha⟩ := ha
  have hl1 := hl.1
  refine ⟨(Txt.replace (S a) p q).cps.toList, ⟨?_, fun c hc => ?_⟩, fun H1 e Q k => ha H1 e _ fun H2 e2 => ⟨S a, rfl, ?_, ?_⟩⟩
  · have h := TK.replace_len (S a) p q
    have h1 : (S a).length = a.length := S_len a
    rw [h1, hq] at h
    have e : (Txt.replace (S a) p q).cps.toList.length = (Txt.replace (S a) p q).length := by simp [Str.length]
    rw [e]
    omega
  · rw [PySem.StrLaws.replace_list hp] at hc
    rcases repl_mem 0 _ hc with h | h
    · exact hl.2 c (by rw [tl_S] at h; exact h)
    · exact hq2 c h
  · rw [S_len, hq]
    omega
  · have h := k H2 e2
    rw [← SX.S_tl (Txt.replace (S a) p q)]
    exact h
section
variable {D : Ends} {tz : TS} {n k : Nat}
theorem q_asgB (h : EvB te σ H n) (f : ∀ b : List Nat, Sm n b → ∀ H1, Ex H H1 → tz D (σ.set k (some (tx b))) H1) : tSeq (tAsg te (gName k)) tz D σ H := by
  obtain ⟨b, hb, h⟩ := h
  exact Evl.q_asg h fun H1 e => f b hb H1 e
theorem s_asgB (h : EvB te σ H n) (f : ∀ b : List Nat, Sm n b → ∀ H1, Ex H H1 → D.nx (σ.set k (some (tx b))) H1) : tAsg te (gName k) D σ H := by
  obtain ⟨b, hb, h⟩ := h
  exact Evl.s_asg h fun H1 e => f b hb H1 e
theorem s_retB (h : EvB te σ H n) (f : ∀ b : List Nat, Sm n b → ∀ H1, Ex H H1 → D.rt (tx b) H1) : tRet te D σ H := by
  obtain ⟨b, hb, h⟩ := h
  exact Evl.s_ret h fun H1 e => f b hb H1 e
end
/-- a slice, whatever its ends -/
theorem ev_slX {tl th : TO} {lo hi : Option Int} (ha : Ev ta σ H (tx a)) (h1 : EvO tl σ H lo) (h2 : EvO th σ H hi) (hz : a.length ≤ 1000000) : Ev (tSl rSlS ta tl th) σ H (tx (cutL a lo hi)) := ev_slS ha h1 h2 hz rfl
end
theorem join_flat : ∀ l : List (List Nat), TL.joinL [] l = l.flatten
  | [] => rfl
  | [p] => by simp [TL.joinL]
  | p :: q :: r => by
    rw [TL.joinL, join_flat (q :: r), List.nil_append]
    rfl
theorem join_one (f : Nat → Nat) (l : List Nat) : TL.joinL [] (l.map fun c => [f c]) = l.map f := by
  rw [join_flat]
  induction l with
  | nil => rfl
  | cons c r ih =>
    rw [List.map_cons, List.flatten_cons, ih]
    rfl
end Kb
set_option Elab.async false
set_option linter.all false
set_option maxRecDepth 100000
set_option maxHeartbeats 4000000
/-! KGv: values of mixed kinds: texts, None, 7, True, lists and tuples of texts. -/
namespace Kb
open L2 PySem PySem.Spec PyProof.Rows
open SX (S S_len S_cat S_inj)
open Evl (Ev EvL EvU EvT EvA EvO Ex RV RC RCL SpV SpL ev_op sz_of sz_lt fresh_back ev_cb el_cb RetV RetL given Cw)
def GV (H : Hp) (v : V) : Prop := (∃ a : List Nat, v = tx a ∧ Sm 1000 a) ∨ v = .non ∨ v = .int 7 ∨ v = .bl true ∨
  (∃ (p : Addr) (xs : List (List Nat)), v = .ref p ∧ H p = some (.lst (xs.map tx)) ∧ xs.length ≤ 1000 ∧ ∀ a ∈ xs, Sm 1000 a) ∨
  (∃ (p : Addr) (xs : List (List Nat)), v = .ref p ∧ H p = some (.tup (xs.map tx)) ∧ xs.length ≤ 1000 ∧ ∀ a ∈ xs, Sm 1000 a)
theorem GV.mono {H H' : Hp} {v : V} (h : GV H v) (e : Ex H H') : GV H' v := by
  rcases h with h | h | h | h | ⟨p, xs, h1, h2, h3⟩ | ⟨p, xs, h1, h2, h3⟩
  · exact .inl h
  · exact .inr (.inl h)
  · exact .inr (.inr (.inl h))
  · exact .inr (.inr (.inr (.inl h)))
  · exact .inr (.inr (.inr (.inr (.inl ⟨p, xs, h1, e _ _ h2, h3⟩))))
  · exact .inr (.inr (.inr (.inr (.inr ⟨p, xs, h1, e _ _ h2, h3⟩))))
theorem gv_tx {H : Hp} {a : List Nat} (h : Sm 1000 a) : GV H (tx a) := .inl ⟨a, rfl, h⟩
/-- an expression that makes such a value -/
def EvG (te : TE) (σ : L2.St) (H : Hp) : Prop := ∀ H1, Ex H H1 → ∀ Q : VK, (∀ v H2, Ex H1 H2 → GV H2 v → Q v H2) → te σ H1 Q
def EvGs (ta : TA) (σ : L2.St) (H : Hp) (n : Nat) : Prop := ∀ H1, Ex H H1 → ∀ Q : List V → Hp → Prop, (∀ vs H2, Ex H1 H2 → vs.length = n → (∀ v ∈ vs, GV H2 v) → Q vs H2) → ta σ H1 Q
def EvGL (te : TE) (σ : L2.St) (H : Hp) (n : Nat) : Prop := ∀ H1, Ex H H1 → ∀ Q : VK, (∀ p vs H2, H1 p = none → Ex H1 H2 → H2 p = some (.lst vs) → vs.length = n → (∀ v ∈ vs, GV H2 v) → Q (.ref p) H2) → te σ H1 Q
section
variable {K : PySem.W.Frag} {σ : L2.St} {H H' : Hp} {ta tb te : TE} {a b : List Nat} {i j : Int} {x y z v : V}
theorem eg_v (h : Ev te σ H v) (g : GV H v) : EvG te σ H := fun H1 e Q q => h H1 e _ fun H2 e2 => q v H2 e2 (g.mono (e.trans e2))
theorem eg_B {n : Nat} (h : EvB te σ H n) (hn : n ≤ 1000) : EvG te σ H := by
  obtain ⟨b, hb, h⟩ := h
  exact eg_v h (gv_tx (Sm.up hb hn))
theorem eg_L {xs : List (List Nat)} (h : EvL te σ H (xs.map tx)) (hl : xs.length ≤ 1000) (hx : ∀ a ∈ xs, Sm 1000 a) : EvG te σ H :=
  fun H1 e Q q => h H1 e _ fun p H2 hp e2 h2 => q _ H2 e2 (.inr (.inr (.inr (.inr (.inl ⟨p, xs, rfl, h2, hl, hx⟩)))))
theorem eg_U {xs : List (List Nat)} (h : EvU te σ H (xs.map tx)) (hl : xs.length ≤ 1000) (hx : ∀ a ∈ xs, Sm 1000 a) : EvG te σ H :=
  fun H1 e Q q => h H1 e _ fun p H2 hp e2 h2 => q _ H2 e2 (.inr (.inr (.inr (.inr (.inr ⟨p, xs, rfl, h2, hl, hx⟩)))))
theorem egs_nil : EvGs tNil σ H 0 := fun H1 _ Q q => q [] H1 (Ex.refl H1) rfl fun v hv => by cases hv
theorem egs_cons {tr : TA} {n : Nat} (h : EvG te σ H) (hr : EvGs tr σ H n) : EvGs (tCons te tr) σ H (n + 1) := fun H1 e Q q =>
  h H1 e _ fun v H2 e2 g => hr H2 (e.trans e2) _ fun vs H3 e3 hl hv => q (v :: vs) H3 (e2.trans e3) (by rw [List.length_cons, hl]) fun w hw => by
    rcases List.mem_cons.mp hw with rfl | hw
    · exact g.mono e3
    · exact hv w hw
theorem egl_lst {ta : TA} {n : Nat} (h : EvGs ta σ H n) (hn : n ≤ 100000) : EvGL (tLst ta) σ H n := fun H1 e Q q =>
  h H1 e _ fun vs H2 e2 hl hv => ⟨by rw [hl]; exact sz_of hn, fun p hp => q p vs _ (fresh_back e2 hp) (e2.trans (Ex.new hp)) upd_same hl fun v hv2 => (hv v hv2).mono (Ex.new hp)⟩
theorem egl_cat {n m : Nat} (ha : EvGL ta σ H n) (hb : EvGL tb σ H m) (hz : n + m ≤ 100000) : EvGL (tOp rCat ta tb) σ H (n + m) := fun H1 e Q q =>
  ha H1 e _ fun p vs H2 hp e2 h2 hl hv => hb H2 (e.trans e2) _ fun r ws H3 hr e3 h3 hl2 hw => ⟨p, r, vs, ws, rfl, rfl, e3 _ _ h2, h3, by rw [hl, hl2]; exact sz_of hz, fun o ho =>
    q o (vs ++ ws) _ (fresh_back (e2.trans e3) ho) ((e2.trans e3).trans (Ex.new ho)) upd_same (by rw [List.length_append, hl, hl2]) fun v hv2 => by
      rcases List.mem_append.mp hv2 with h | h
      · exact ((hv v h).mono e3).mono (Ex.new ho)
      · exact (hw v h).mono (Ex.new ho)⟩
/-- a variable that holds such a list, put before another -/
theorem egl_catV {p : Addr} {vs : List V} {n m : Nat} (ha : Ev ta σ H (.ref p)) (hp : H p = some (.lst vs)) (hl : vs.length = n) (hv : ∀ v ∈ vs, GV H v) (hb : EvGL tb σ H m) (hz : n + m ≤ 100000) : EvGL (tOp rCat ta tb) σ H (n + m) := fun H1 e Q q =>
  ha H1 e _ fun H2 e2 => hb H2 (e.trans e2) _ fun r ws H3 hr e3 h3 hl2 hw => ⟨p, r, vs, ws, rfl, rfl, ((e.trans e2).trans e3) _ _ hp, h3, by rw [hl, hl2]; exact sz_of hz, fun o ho =>
    q o (vs ++ ws) _ (fresh_back (e2.trans e3) ho) ((e2.trans e3).trans (Ex.new ho)) upd_same (by rw [List.length_append, hl, hl2]) fun v hv2 => by
      rcases List.mem_append.mp hv2 with h | h
      · exact ((hv v h).mono ((e.trans e2).trans e3)).mono (Ex.new ho)
      · exact (hw v h).mono (Ex.new ho)⟩
theorem eg_ix {n k : Nat} (ha : EvGL ta σ H n) (hb : ∀ H1, Ex H H1 → Ev tb σ H1 (.int (k : Int))) (hk : k < n) : EvG (tOp (rIxL K) ta tb) σ H := fun H1 e Q q =>
  ha H1 e _ fun p vs H2 hp e2 h2 hl hv => hb H2 (e.trans e2) H2 (Ex.refl H2) _ fun H3 e3 => by
    have hk2 : k < vs.length := by omega
    refine ⟨p, vs, (k : Int), vs[k], rfl, rfl, Evl.sq_of (e3 _ _ h2), atI_nat (List.getElem?_eq_getElem hk2), q _ H3 (e2.trans e3) ((hv _ (List.getElem_mem hk2)).mono e3)⟩
variable {D : Ends} {tz tu : TS} {n k : Nat}
theorem s_retG (h : EvG te σ H) (f : ∀ v H1, Ex H H1 → GV H1 v → D.rt v H1) : tRet te D σ H := h H (Ex.refl H) _ f
theorem q_asgGL (h : EvGL te σ H n) (f : ∀ p vs H1, H p = none → Ex H H1 → H1 p = some (.lst vs) → vs.length = n → (∀ v ∈ vs, GV H1 v) → tz D (σ.set k (some (.ref p))) H1) : tSeq (tAsg te (gName k)) tz D σ H :=
  h H (Ex.refl H) _ fun p vs H1 a b c d e => f p vs H1 a b c d e
/-- if c: name = text, where what is said of the text holds either way -/
theorem q_ifX {b : Bool} {t : TT} (M : List Nat → Prop) (h : EvT t σ H b) (h1 : b = true → ∀ H1, Ex H H1 → ∀ D' : Ends, (∀ x, M x → ∀ H2, Ex H1 H2 → D'.nx (σ.set k (some (tx x))) H2) → tu D' σ H1)
    (h2 : b = false → ∃ x, M x ∧ σ.set k (some (tx x)) = σ) (f : ∀ x, M x → ∀ H1, Ex H H1 → tz D (σ.set k (some (tx x))) H1) : tSeq (tIfS t tu tNext) tz D σ H :=
  h H (Ex.refl H) _ fun H1 e => by
    cases b with
    | true => exact h1 rfl H1 e { D with nx := tz D } fun x hx H2 e2 => f x hx H2 (e.trans e2)
    | false =>
      obtain ⟨x, hx, ex⟩ := h2 rfl
      have := f x hx H1 e
      rw [ex] at this
      exact this
theorem q_ifB {b : Bool} {t : TT} {a : List Nat} (h : EvT t σ H b) (h1 : b = true → EvB te σ H n) (ha : Sm n a) (h2 : σ.set k (some (tx a)) = σ) (f : ∀ x : List Nat, Sm n x → ∀ H1, Ex H H1 → tz D (σ.set k (some (tx x))) H1) : tSeq (tIfS t (tAsg te (gName k)) tNext) tz D σ H :=
  q_ifX (fun x => Sm n x) h (fun hb H1 e D' g => by
    obtain ⟨y, hy, hv⟩ := h1 hb
    exact Evl.s_asg (hv.mono e) fun H2 e2 => g y hy H2 e2) (fun _ => ⟨a, ha, h2⟩) f
end
theorem cut_toI (l : List Nat) {h : Int} (h0 : 0 ≤ h) : cutL l none (some h) = l.take h.toNat := by
  have e : h = ((h.toNat : Nat) : Int) := by omega
  conv => lhs; rw [e]
  exact cut_to l h.toNat
theorem cut_toLen (l : List Nat) {h : Int} (h0 : 0 ≤ h) : (cutL l none (some h)).length ≤ h.toNat := by
  rw [cut_toI l h0, List.length_take]
  omega
end Kb
set_option Elab.async false
set_option linter.all false
set_option maxRecDepth 100000
set_option maxHeartbeats 4000000
/-! KExc: errors with own fields: isinstance of a caught one, a def asked about it, several clauses with a name. -/
namespace Kb
open L2 PySem PySem.Spec PyProof.Rows
open Evl (Ex)
section
variable {X : Cx} {pp : Addr × Obj} {D d : Addr}
theorem pin_inst {pins : List (Addr × Obj)} {s : Shared} {σ : L2.St} {H : Hp} {fs : List (Str × V)} (I : Inv X pins σ H s) (hp : pp ∈ X.pn) (hc : pp.2.cls = .ref D) (hd : pp.2.dict = some d) (hv : ∃ vs, pp.2.data = .fields vs) (hx : H d = some (.xd fs)) :
    ∃ od, PySem.W.InstAt s.heap pp.1 pp.2 D (some od) := by
  have p1 := I.pin pp (List.mem_append_left _ hp)
  have ob : ObjOk X.prog X.w H s.heap d (.xd fs) := I.hok d _ hx
  obtain ⟨m, hn, _⟩ := ob
  obtain ⟨od, ho, _⟩ := lookIn_ns hn
  obtain ⟨vs, hv⟩ := hv
  refine ⟨od, p1.1, hc, ?_, ?_⟩
  · unfold PySem.W.notCls
    rw [hv]
  · rw [hd]
    exact ho
/-- isinstance(e, c), e the pinned error whose own dict is at d -/
def rIsP (K : PySem.W.Frag) (D a d : Addr) : List V → Hp → VK → Prop := fun xs H Q => ∃ (c : V) (u : Value) (k : Bool) (fs : List (Str × V)), xs = [.ref a, c] ∧ ClsV c u ∧ PySem.W.kitOne K (.ref D) u = some k ∧ H d = some (.xd fs) ∧ Q (.bl k) H
/-- isinstance(e, (c1, c2, ..)) -/
def rIsPT (K : PySem.W.Frag) (D a d : Addr) : List V → Hp → VK → Prop := fun xs H Q => ∃ (tp : Addr) (cs : List V) (us : List Value) (k : Bool) (fs : List (Str × V)), xs = [.ref a, .ref tp] ∧ H tp = some (.tup cs) ∧ Paired ClsV cs us ∧
  PySem.W.kitAny K (.ref D) us = some k ∧ H d = some (.xd fs) ∧ Q (.bl k) H
theorem kit_err {K : PySem.W.Frag} {x : Addr} {ox : Obj} {od : Option Obj} (C : ExcC K D) : PySem.W.KitX K (.ref x) (.ref D) (fun h => PySem.W.InstAt h x ox D od) := by
  obtain ⟨cd, hcd, _⟩ := PySem.W.any_some C.hd
  exact PySem.W.kitx_exc (by rw [hcd]; rfl) C.hg C.hk C.hs C.ha C.hn C.ht C.hm
theorem isE_one (C : ExcC X.K D) (hp : pp ∈ X.pn) (hc : pp.2.cls = .ref D) (hd : pp.2.dict = some d) (hv : ∃ vs, pp.2.data = .fields vs) : CallR X (.builtin "isinstance") (rIsP X.K D pp.1 d) := by
  intro pins s σ H xs us Q I rel wish
  obtain ⟨c, w, k, fs, rfl, kc, e, hx, q⟩ := wish
  obtain ⟨v1, v2, rfl, r1, r2⟩ := vals2 rel
  obtain rfl : v2 = w := kc.eq r2
  obtain rfl : v1 = Value.ref pp.1 := r1
  obtain ⟨od, J⟩ := pin_inst I hp hc hd hv hx
  exact PySem.W.kia_one (kit_err C) I.kIn J e (fun z => nomatch z) fun tk => ⟨.bl k, H, I.tok tk, rfl, q⟩
theorem isE_tup (C : ExcC X.K D) (hp : pp ∈ X.pn) (hc : pp.2.cls = .ref D) (hd : pp.2.dict = some d) (hv : ∃ vs, pp.2.data = .fields vs) : CallR X (.builtin "isinstance") (rIsPT X.K D pp.1 d) := by
  intro pins s σ H xs us Q I rel wish
  obtain ⟨tp, cs, ws, k, fs, rfl, ht, kc, e, hx, q⟩ := wish
  obtain ⟨v1, v2, rfl, r1, r2⟩ := vals2 rel
  obtain rfl : v2 = Value.ref tp := r2
  obtain rfl : v1 = Value.ref pp.1 := r1
  obtain ⟨od, J⟩ := pin_inst I hp hc hd hv hx
  have ob : ObjOk X.prog X.w H s.heap tp (.tup cs) := I.hok tp _ ht
  obtain ⟨_, its, rv, o, g1, g2, n, g3⟩ := ob
  obtain rfl : its = ws := ClsV.all kc rv
  obtain ⟨oc, oD, dt, sl⟩ := o
  obtain rfl : oc = .type "tuple" := g2
  obtain rfl : dt = .seq its.toArray n := g3
  exact PySem.W.kia_tup (kit_err C) I.kIn J g1 e (fun z => nomatch z) fun tk => ⟨.bl k, H, I.tok tk, rfl, q⟩
end

/-! ### a def of one parameter, called with the pinned error; it answers by a Bool and lets nothing out -/
theorem pe_plain {X : Cx} {pp : Addr × Obj} {x name qual a1 : Str} {params : Arguments} {body : List Stmt} {scope : Scope} {f : Addr} {fd : FuncData} {N : List Str} {k : Nat} {e : Expr} {ta : TA} {q pos : Pos} (F : FunD X.K name qual params body scope [] [] f fd) (hb : Binds X.K fd [a1] [])
    (S : FnScope N [a1] scope) (hm : X.mg x = some (.ref f)) (hr : L2H.RoomH (k + 1) X.A) (hp : pp ∈ X.pn) (hg : Gl X x) (ha : PA X [e] ta) (Pre : Hp → Prop) (ans : Bool)
    (hbody : ∀ (cdv : Value) (A : Around) (outer : List Env) (s : Shared) (H : Hp) (E : XK), ∃ t, PSs (L2H.cxH CX0 X.prog X.w X.K X.mg X.base N qual scope f cdv A outer s H E pp) body t ∧
      ∀ (Q : VK), Pre H → (∀ H', Ex H H' → Q (.bl ans) H') → t { nx := fun _ H' => Q .non H', rt := Q } (L2.start N [.ref pp.1]) H)
    (hdb : (x == ("__debug__" : Str)) = false := by decide) (he : starEach [e] X.env = (false, eval e X.env) :: starEach [] X.env := by rfl) (hpl : (backTo pos (starEach [] X.env)).any (·.1) = false := by rfl) :
    PE X (.Call (.Name x q) [e] [] pos) (fun σ H Q => ta σ H fun vs H1 => vs = [.ref pp.1] ∧ Pre H1 ∧ ∀ H', Ex H1 H' → Q (.bl ans) H') := by
  refine ⟨fun pins s σ H Q inv wish => wpAny_Call_Name_kw (ld_glob inv hg hm ?_ hdb)⟩
  refine PySem.W.callWith_K (h₀ := X.base) inv.ok.mod.kin F.kp (thn (ha.run pos pins s σ H _ inv wish) fun us s1 got => ?_) he hpl
  obtain ⟨vs, H1, I1, r1, rfl, pre, fin⟩ := got
  refine ⟨I1.kIn, ?_⟩
  obtain ⟨u, rfl, isPin⟩ := vals1 r1
  show wpAny _ _ (call (.ref f) [u]) _ _ _
  obtain ⟨oc, od, dV, kV, doc, pm, an, cdv, ct, slots, rfl, lk, hcd, -, -⟩ := F.ex
  have p1 := I1.pin pp (List.mem_append_left _ hp)
  have hpin : L2H.PinOk X.stack H1 s1 pp := ⟨p1.1, p1.2.1, fun z => by
    rcases List.mem_cons.mp (I1.stkSub pp.1 z) with z | z
    · exact p1.2.2.1 z
    · exact p1.2.2.2.1 z, p1.2.2.2.2⟩
  have e0 := I1.env0
  have lim : s1.heap.NoLimit := e0.mod.nolimit.keeps fun b o z => (e0.bs b o z).1
  have kinds : ∀ y ∈ [a1].zip [u], scope.names.lookup y.1 = some .local ∨ (scope.names.lookup y.1 = some .cell ∧ ((cellsFrom (s1.heap.objs.size + 1) scope.names []).lookup y.1).isSome = true) := fun y hy => by
    have hy1 : y.1 ∈ [a1] := by
      obtain ⟨y1, y2⟩ := y
      exact (List.of_mem_zip hy).1
    rcases S.par y.1 hy1 with z | z
    · exact Or.inl z
    · exact Or.inr ⟨z, PySem.W.cellsFrom_some _ _ _ (Or.inl z)⟩
  have run : codeAny (model X.prog X.w) X.A (.call (.ref f) ⟨[u], []⟩) (CR CX0 X.stack X.prog X.w H1 s1 Q E0) s1 := by
    refine codeAny_call_function hr.depth (I1.kIn _ _ lk) rfl S.co S.gen rfl (PySem.W.codeRec_of I1.kIn hcd) (hb s1 [u] I1.kIn rfl _ _ _ _ ?_)
    refine wpAny_newFunctionEnv_cells S.kind kinds fun env he s2 inC => ?_
    subst he
    refine ⟨lim.keeps inC.toInCall.keep, codeAny_func ?_⟩
    obtain ⟨t, ht, hq⟩ := hbody cdv X.A X.stack s1 H1 E0
    have J := L2H.inv_startH (CX := CX0) (E := E0) (cd := cdv) (f := f) (qual := qual) S hpin e0 rfl r1 inC
    refine wpAny_mono (ht.run [] s2 _ H1 _ J (hq Q pre fin)) (fun fl s3 hs => ?_) fun _ _ z => z
    cases fl with
    | ret u3 =>
      obtain ⟨v3, σ3, H3, J3, rv, q3⟩ := hs
      exact ⟨v3, H3, J3.os, J3.bare, J3.base, J3.hok, rv, q3⟩
    | next =>
      obtain ⟨σ3, H3, J3, q3⟩ := hs
      exact ⟨V.non, H3, J3.os, J3.bare, J3.base, J3.hok, rfl, q3⟩
    | brk => exact (hs.choose_spec.choose_spec.2 : False).elim
    | cont => exact (hs.choose_spec.choose_spec.2 : False).elim
  refine wpAny_call (codeAny_mono run fun r s3 got => ?_)
  cases r with
  | error z => exact got.elim
  | ok fl =>
    cases fl with
    | ret u3 => exact I1.after got
    | next => exact got.elim
    | brk => exact got.elim
    | cont => exact got.elim
end Kb
set_option Elab.async false
set_option linter.all false
set_option maxRecDepth 100000
set_option maxHeartbeats 4000000
/-! KTry: try with several clauses that name the error, one of which takes it. -/
namespace Kb
open L2 PySem PySem.Spec PyProof.Rows
open Evl (Ex)
abbrev Suite : Type := Addr → Value → Option Addr → TS
/-- the ends of a suite whose error's name goes -/
def offName (i : Nat) (D : Ends) : Ends := { nx := fun σ H => D.nx (σ.set i none) H, rt := D.rt, bk := fun σ H => D.bk (σ.set i none) H, ct := fun σ H => D.ct (σ.set i none) H }
/-- what the clauses wish of an error: one of them takes it -/
def wSome (K : PySem.W.Frag) (i : Nat) (D : Ends) : List (Value × Suite) → WX
  | [] => fun _ _ _ _ => False
  | cl :: more => fun cls d σ H => ∃ k, PySem.W.exmOne K cls cl.1 = some k ∧ (k = true → ∀ a, H a = none → cl.2 a cls d (offName i D) (σ.set i (some (.ref a))) H) ∧ (k = false → wSome K i D more cls d σ H)
inductive AsOk (X : Cx) (n : Str) : List ExceptHandler → List (Value × Suite) → Prop
  | nil : AsOk X n [] []
  | cons {x : Str} {c : Value} {ts : Suite} {b₀ : Stmt} {rest : List Stmt} {p1 p2 : Pos} {hds : List ExceptHandler} {more : List (Value × Suite)} (nm : Names X x c)
      (ok : ∀ (a : Addr) (o : Obj) (cls : Value) (d : Option Addr) (pn : List (Addr × Obj)), Zc cls d o → (∃ vs, o.data = .fields vs) → PSs (X.suite a ((a, o) :: pn)) (b₀ :: rest) (ts a cls d)) (r : AsOk X n hds more) :
      AsOk X n (.ExceptHandler (some (.Name x p1)) (some n) (b₀ :: rest) p2 :: hds) ((c, ts) :: more)
/-- an error has landed at a: the clauses are asked one behind another -/
theorem asked_all {X : Cx} {n : Str} {i : Nat} {pins : List (Addr × Obj)} {σ : L2.St} {H : Hp} {sI s' : Shared} {B h1 : Heap} {a : Addr} {cls : Value} {d : Option Addr} {D : Ends} (ok : X.Ok) (hN : X.N.Nodup) (hi : X.N[i]? = some n) (hln : X.env.kindOf n = some .local)
    (J : Inv X pins σ H sI) (nb : ∀ b o, sI.heap.get? b = some o → b ∉ frs X.stack → B.get? b = some o) (up : sI.heap.UpToSlots h1) (os : s'.os = sI.os) (ag : AllBare s'.gens) (na : H a = none) (nL : a ≠ X.env.locals) (nF : a ∉ X.fs)
    (fl : HandSPX.FlyingZ B X.stack a (Zc cls d) h1) : ∀ {hds : List ExceptHandler} {l : List (Value × Suite)}, AsOk X n hds l → wSome X.K i D l cls d σ H →
      wpAny (model X.prog X.w) X.A (handleBy (.ref a) X.env hds) (SP X pins D) X.xe { s' with heap := h1 } := by
  intro hds l hk
  induction hk with
  | nil => exact fun z => z.elim
  | @cons x c ts b₀ rest p1 p2 hds2 more nm suiteOk _ again =>
    intro wish
    obtain ⟨k, ek, yes, no⟩ := wish
    have J1 : Inv X pins σ H { s' with heap := h1 } := J.landed nb fl.1 up os ag
    obtain ⟨o1, vs1, at1, z1, f1⟩ := fl.there
    have S1 := J1.suite at1 f1 na nL nF
    have asks : ∀ {Q : Value → Shared → Prop} {E : Value → Shared → Prop}, Q c { s' with heap := h1 } → wpAny (model X.prog X.w) (X.A.mark (some (.ref a))) (eval (.Name x p1) X.env) Q E { s' with heap := h1 } := by
      intro Q E hq
      obtain ⟨g1, g2, g3⟩ := nm
      rcases g3 with g3 | ⟨g3, g4, g5⟩
      · exact ld_glob (X := X.suite a ((a, o1) :: (X.pn ++ pins))) S1 g1 g3 hq g2
      · exact ld_blt (X := X.suite a ((a, o1) :: (X.pn ++ pins))) S1 g1 g3 g4 hq g5 g2
    have kind : PySem.W.Looks (model X.prog X.w) h1 (typeOf (.ref a)) cls := fun A Q E s kk hq => by
      refine wpAny_typeOf_ref (kk _ _ at1) ?_
      rw [z1.1]
      exact hq
    refine wpAny_handleBy_cons (codeAny_handlers_test (asks ((PySem.W.exm_one (M := model X.prog X.w) J1.kIn kind ek).here ?_))) (by intro z; cases z)
    cases k with
    | false => exact again (no rfl)
    | true =>
      refine codeAny_handlers_suite_as (HandSPX.lands_againZ fl fun h2 fl2 up2 => ?_)
      have J2 : Inv X pins σ H { s' with heap := h2 } := J.landed nb fl2.1 (up.trans up2) os ag
      obtain ⟨o2, vs2, at2, z2, f2⟩ := fl2.there
      have S2 := J2.suite at2 f2 na nL nF
      refine store_ok (X := X.suite a ((a, o2) :: (X.pn ++ pins))) (v := .ref a) S2 hN hi (Or.inl hln) rfl (fun s3 S3 => ?_) (Or.inr hln)
      refine wpAny_mono ((suiteOk a o2 cls d (X.pn ++ pins) z2 ⟨vs2, f2⟩).run [] s3 _ H _ S3 (yes rfl a na)) (fun f s4 got => ?_) fun _ _ z => z.elim
      have off : ∀ {σ4 : L2.St} {H4 : Hp} {G : Shared → Prop}, Inv (X.suite a ((a, o2) :: (X.pn ++ pins))) [] σ4 H4 s4 → (∀ s5, Inv X pins (σ4.set i none) H4 s5 → G s5) →
          wpAny (model X.prog X.w) X.A (do bindName X.env n .none; unbindBehindTheSuite X.env n p2) (fun _ s5 => G s5) X.xe s4 := fun {_ _ _} S4 hg => gone_ok (S4.unsuite ok) hN hi hln hg
      cases f with
      | ret u =>
        obtain ⟨v4, σ4, H4, S4, r4, q4⟩ := got
        exact off S4 fun s5 J5 => ⟨v4, _, H4, J5, r4, q4⟩
      | next =>
        obtain ⟨σ4, H4, S4, q4⟩ := got
        exact off S4 fun s5 J5 => ⟨_, H4, J5, q4⟩
      | brk =>
        obtain ⟨σ4, H4, S4, q4⟩ := got
        exact off S4 fun s5 J5 => ⟨_, H4, J5, q4⟩
      | cont =>
        obtain ⟨σ4, H4, S4, q4⟩ := got
        exact off S4 fun s5 J5 => ⟨_, H4, J5, q4⟩
theorem ps_trySome {X : Cx} {n : Str} {i : Nat} {body : List Stmt} {h₀ : ExceptHandler} {hds : List ExceptHandler} {l : List (Value × Suite)} {pos : Pos} {tb : WX → TS} (hst : X.stack = X.env :: X.outer) (hf : X.env.frame = some X.env.locals) (hN : X.N.Nodup) (hi : X.N[i]? = some n) (hln : X.env.kindOf n = some .local)
    (hb : ∀ (W : WX) (pn : List (Addr × Obj)) (xe : Value → Shared → Prop), Takes (X.tr pn xe) W → PSs (X.tr pn xe) body (tb W)) (hh : AsOk X n (h₀ :: hds) l) :
    PS X (.Try body (h₀ :: hds) [] [] pos) (fun D σ H => tb (wSome X.K i D l) D σ H) := by
  refine ⟨fun pins s σ H D inv wish => ?_⟩
  have ok := inv.ok
  have frames : X.A.frames = some (X.env :: X.outer) := by rw [ok.frames, hst]
  have caught : Takes (X.tr (X.pn ++ pins) fun e t1 => wpAny (model X.prog X.w) X.A (noteFrame e X.env) (fun _ t2 => wpAny (model X.prog X.w) X.A (setFlight e none) (fun _ t3 => wpAny (model X.prog X.w) X.A (handleBy e X.env (h₀ :: hds)) (SP X pins D) X.xe t3) X.xe t2) X.xe t1) (wSome X.K i D l) := by
    intro u t1 air
    obtain ⟨a, B, sI, pins2, σ2, H2, cls, d, rfl, J2, nb, up, sky, na, os, ag, wish⟩ := air
    have J : Inv X pins σ2 H2 sI := J2.ofTry ok
    have sky2 : Sky B (X.env :: X.outer) a (Zc cls d) X.env.locals t1.heap := by rw [← hst]; exact sky
    refine Sky.land Zc.steady frames hf sky2 fun h3 fl3 up3 => ?_
    obtain ⟨o3, vs3, at3, z3, f3⟩ := fl3.there
    have away : a ∉ frs (X.env :: X.outer) := fun z => by
      obtain ⟨_, o4, at4, other⟩ := fl3.2.2.1.mem z
      obtain rfl : o3 = o4 := Option.some.inj (at3.symm.trans at4)
      exact other _ f3
    have nL : a ≠ X.env.locals := fun z => away (List.mem_filterMap.mpr ⟨X.env, List.mem_cons_self, by rw [hf, z]⟩)
    have nF : a ∉ X.fs := fun z => by
      obtain ⟨en, m1, m2⟩ := List.mem_filterMap.mp z
      exact away (List.mem_filterMap.mpr ⟨en, List.mem_cons_of_mem _ m1, m2⟩)
    exact asked_all ok hN hi hln J nb (up.trans up3) os ag na nL nF (by rw [hst]; exact fl3) hh wish
  refine wpAny_Try_except (wpAny_mono ((hb _ _ _ caught).run [] s σ H D (inv.toTry _) wish) (fun f t1 got => ?_) fun _ _ z => z)
  cases f with
  | ret u =>
    obtain ⟨v, σ2, H2, J2, r, q⟩ := got
    exact ⟨v, σ2, H2, J2.ofTry ok, r, q⟩
  | next =>
    obtain ⟨σ2, H2, J2, q⟩ := got
    exact wpAny_execs_nil ⟨σ2, H2, J2.ofTry ok, q⟩
  | brk =>
    obtain ⟨σ2, H2, J2, q⟩ := got
    exact ⟨σ2, H2, J2.ofTry ok, q⟩
  | cont =>
    obtain ⟨σ2, H2, J2, q⟩ := got
    exact ⟨σ2, H2, J2.ofTry ok, q⟩
end Kb
set_option Elab.async false
set_option linter.all false
set_option maxRecDepth 100000
set_option maxHeartbeats 4000000
/-! KGuard: repr of data, for defs that run with no repr about them; the law's call for such a def. -/
namespace Kb
open L2 PySem PySem.Spec PyProof.Rows
open SX (S S_len S_cat S_inj)
open Evl (Ex Ev EvT EvA)
/-! ### repr -/
def rRepr (K : PySem.W.Frag) : List V → Hp → VK → Prop := fun xs H Q => ∃ (v : V) (d : PyData), xs = [v] ∧ Dp K H v d ∧ d.showable = true ∧ d.hasDict = false ∧ d.shown.length ≤ sizeLine ∧ d.depth ≤ 64 ∧ Q (.str d.shown) H
theorem cl_repr {X : Cx} (hg : X.A.guards = some []) (hu : X.A.units + 66 < cLine) : CallR X (.builtin "repr") (rRepr X.K) := by
  intro pins s σ H xs us Q I rel wish
  obtain ⟨v, d, rfl, hd, hs, hn, hz, hdp, q⟩ := wish
  obtain ⟨u, rfl, ru⟩ := vals1 rel
  have done : ∀ (t : Nat) (tk : Nat), EP X pins σ Q (.str d.shown t) { s with toks := tk } := fun t tk => ⟨.str d.shown, H, I.tok tk, ⟨t, rfl⟩, q⟩
  cases hd with
  | non =>
    obtain rfl : u = Value.none := ru
    have e : (PyData.none).shown = ("None" : Str) := PyData.shown_none
    rw [e] at done
    exact PySem.P.repr_of_none (done _ _)
  | bl b =>
    obtain rfl : u = Value.bool b := ru
    have e := PyData.shown_bool b
    rw [e] at done
    exact PySem.P.repr_of_bool (done _ _)
  | int i =>
    obtain ⟨t, rfl⟩ := ru
    have e := PyData.shown_int i
    rw [e] at done
    refine PySem.P.repr_of_int ?_ (done _ _)
    unfold PyData.showable at hs
    exact of_decide_eq_true hs
  | str x =>
    obtain ⟨t, rfl⟩ := ru
    have e := PyData.shown_str x
    rw [e] at done hz
    exact PySem.P.repr_of_str (done _ _) hz
  | lst h1 h2 =>
    rename_i p ys ds
    have hd2 : Dp X.K H (.ref p) (.list ds) := .lst h1 h2
    obtain ⟨as, rd⟩ := Dp.reads I _ _ _ hd2 ru
    obtain rfl : u = .ref p := ru
    exact repr_of_reads' rd hs (fun z => by rw [hn] at z; cases z) hg (by omega) (fun _ _ z => z) (fun h' t tk hk => ⟨.str _, H, I.kept (t' := tk) hk, ⟨t, rfl⟩, q⟩) hz
  | tup h1 h2 =>
    rename_i p ys ds
    have hd2 : Dp X.K H (.ref p) (.tuple ds) := .tup h1 h2
    obtain ⟨as, rd⟩ := Dp.reads I _ _ _ hd2 ru
    obtain rfl : u = .ref p := ru
    exact repr_of_reads' rd hs (fun z => by rw [hn] at z; cases z) hg (by omega) (fun _ _ z => z) (fun h' t tk hk => ⟨.str _, H, I.kept (t' := tk) hk, ⟨t, rfl⟩, q⟩) hz
/-! ### defs that are called while no repr runs -/
structure FnG (P : Program) (w : World) (K : PySem.W.Frag) (mg : Str → Option Value) (base : Heap) (k : Nat) (f : Addr) (fd : FuncData) (ps : List Str) (sp : Sp) : Prop where
  len : ∀ (vs : List V) (H : Hp) (Q : VK) (E : XK), sp vs H Q E → vs.length = ps.length
  run : ∀ (A : Around) (outer : List Env) (s : Shared) (H : Hp) (us : List Value) (vs : List V) (Q : VK), A.guards = some [] → Room k A → Env0 P w K mg base A outer s H → BindsTo s fd ⟨us, []⟩ (ps.zip us) → Vals vs us → sp vs H Q E0 →
    codeAny (model P w) A (.call (.ref f) ⟨us, []⟩) (CR CX0 outer P w H s Q E0) s
section
variable {P : Program} {w : World} {K : PySem.W.Frag} {mg : Str → Option Value} {base : Heap} {name qual : Str} {params : Arguments} {body : List Stmt} {scope : Scope} {f : Addr} {fd : FuncData} {N ps : List Str} {k : Nat} {sp : Sp}
theorem fnG_of (F : FunD K name qual params body scope [] [] f fd) (S : FnScope N ps scope) (len : ∀ vs H Q E, sp vs H Q E → vs.length = ps.length)
    (hbody : ∀ (cdv : Value) (A : Around) (outer : List Env) (s : Shared) (H : Hp) (vs : List V) (Q : VK), A.guards = some [] → Room k (A.deeper (envOfC qual scope s.heap.objs.size f cdv)) → sp vs H Q E0 →
      ∃ t, PSs (cxOf CX0 P w K mg base N qual scope f cdv A outer s H E0) body t ∧ t { nx := fun _ H' => Q .non H', rt := Q } (L2.start N vs) H) : FnG P w K mg base (k + 1) f fd ps sp := by
  refine ⟨len, fun A outer s H us vs Q hg hr e0 hb r hsp => ?_⟩
  obtain ⟨oc, od, dV, kV, doc, pm, an, cdv, ct, slots, rfl, lk, hcd, -, -⟩ := F.ex
  have kin : K.In s.heap := e0.mod.kin.keeps fun b o z => (e0.bs b o z).1
  have free : s.heap.NoLimit := e0.mod.nolimit.keeps fun b o z => (e0.bs b o z).1
  have kinds : ∀ y ∈ ps.zip us, scope.names.lookup y.1 = some .local ∨ (scope.names.lookup y.1 = some .cell ∧ ((cellsFrom (s.heap.objs.size + 1) scope.names []).lookup y.1).isSome = true) := fun y hy => by
    have hy1 : y.1 ∈ ps := by
      obtain ⟨y1, y2⟩ := y
      exact (List.of_mem_zip hy).1
    rcases S.par y.1 hy1 with z | z
    · exact Or.inl z
    · exact Or.inr ⟨z, PySem.W.cellsFrom_some _ _ _ (Or.inl z)⟩
  refine codeAny_call_function hr.depth (kin _ _ lk) rfl S.co S.gen rfl (PySem.W.codeRec_of kin hcd) (hb _ _ _ _ ?_)
  refine wpAny_newFunctionEnv_cells S.kind kinds fun env he s2 inC => ?_
  subst he
  refine ⟨free.keeps inC.toInCall.keep, codeAny_func ?_⟩
  obtain ⟨t, ht, hq⟩ := hbody cdv A outer s H vs Q hg (hr.deeper _) hsp
  have J := inv_start (CX := CX0) (E := E0) (cd := cdv) (f := f) (qual := qual) S hr.hd e0 (len _ _ _ _ hsp) r inC
  refine wpAny_mono (ht.run [] s2 _ H _ J hq) (fun fl s3 hs => ?_) fun _ _ z => z
  cases fl with
  | ret u3 =>
    obtain ⟨v3, σ3, H3, J3, rv, q3⟩ := hs
    exact ⟨v3, H3, J3.os, J3.bare, J3.base, J3.hok, rv, q3⟩
  | next =>
    obtain ⟨σ3, H3, J3, q3⟩ := hs
    exact ⟨V.non, H3, J3.os, J3.bare, J3.base, J3.hok, rfl, q3⟩
  | brk => exact (hs.choose_spec.choose_spec.2 : False).elim
  | cont => exact (hs.choose_spec.choose_spec.2 : False).elim
end
theorem pe_callG {X : Cx} {x : Str} {k : Nat} {f : Addr} {fd : FuncData} {ps : List Str} {sp : Sp} {q pos : Pos} {e : Expr} {es : List Expr} {t : TA} (F : FnG X.prog X.w X.K X.mg X.base k f fd ps sp) (hA : X.A.guards = some []) (hr : Room k X.A) (hm : X.mg x = some (.ref f)) (hk : PySem.W.keepIn X.K (.ref f) = true) (hb : Binds X.K fd ps [])
    (ha : PA X (e :: es) t) (hg : Gl X x := by rfl) (hdb : (x == ("__debug__" : Str)) = false := by decide) (he : starEach (e :: es) X.env = (false, eval e X.env) :: starEach es X.env := by rfl) (hpl : (backTo pos (starEach es X.env)).any (·.1) = false := by rfl) :
    PE X (.Call (.Name x q) (e :: es) [] pos) (tCall sp [] E0 t) := by
  refine ⟨fun pins s σ H Q inv wish => wpAny_Call_Name_kw (ld_glob inv hg hm ?_ hdb)⟩
  refine PySem.W.callWith_K (h₀ := X.base) inv.ok.mod.kin hk (thn (ha.run pos pins s σ H _ inv wish) fun us s1 got => ?_) he hpl
  obtain ⟨vs, H1, I1, r1, hsp⟩ := got
  rw [List.append_nil] at hsp
  have hl : (us ++ []).length = ps.length := by
    rw [List.append_nil, ← r1.length]
    exact F.len _ _ _ _ hsp
  have bd := hb s1 us I1.kIn hl
  rw [List.append_nil] at bd
  refine ⟨I1.kIn, wpAny_call (codeAny_mono (F.run X.A X.stack s1 H1 us vs Q hA hr I1.env0 bd r1 hsp) fun r s3 got => ?_)⟩
  cases r with
  | error z => exact got.elim
  | ok fl =>
    cases fl with
    | ret u3 => exact I1.after got
    | next => exact got.elim
    | brk => exact got.elim
    | cont => exact got.elim
/-! ### the law's call -/
theorem lawG_call {P : Program} {w : World} {K : PySem.W.Frag} {mg mb : Str → Option Value} {k : Nat} {fa a : Addr} {fd : FuncData} {x : Str} {sp : Sp} {s1 : Shared} {vs : List Value} {ns : List Int}
    (kin : K.In s1.heap) (gns : s1.heap.Ns mainGlobals mg) (bns : s1.heap.Ns builtinsNs mb) (bis : ∀ x : Str, x ≠ "__name__" → mb x = bootBuiltins x) (free : s1.heap.NoLimit) (gen : s1.gens = #[])
    (at_ : s1.heap.get? a = some { cls := .type "list", data := .seq vs.toArray }) (allInt : IntsAre vs ns) (hl : ns.length ≤ sizeLine) (room : Room k callerA)
    (F : ∀ base : Heap, K.In base → base.Ns mainGlobals mg → FnG P w K mg base k fa fd [x] sp) (binds : ∀ (s : Shared) (u : Value), BindsTo s fd ⟨[u], []⟩ [(x, u)])
    (ends : ∀ H : Hp, Only H → SqL K H a (ns.map V.int) → sp [.ref a] H (fun v _ => v = .bl true) E0) :
    codeAny (model P w) callerA (.call (.ref fa) ⟨[.ref a], []⟩) (fun r s' => r = .ok (.ret (.bool true)) ∧ OldK s1.heap s'.heap ∧ s'.os = s1.os ∧ AllBare s'.gens) s1 := by
  have vals := vals_ints allInt
  have many := allInt.length
  have go : ∀ H : Hp, Only H → SqL K H a (ns.map V.int) → HOk P w H s1.heap → (∀ b, b ≠ a → H b = none) → (H a ≠ none → K.lookup a = none) →
      codeAny (model P w) callerA (.call (.ref fa) ⟨[.ref a], []⟩) (fun r s' => r = .ok (.ret (.bool true)) ∧ OldK s1.heap s'.heap ∧ s'.os = s1.os ∧ AllBare s'.gens) s1 := by
    intro H only seq hok alone apart
    have back : ∀ {b : Addr} {o : Obj}, s1.heap.get? b = some o → H b = none → (hidT s1.heap H).get? b = some o := fun z n => hidT_get z n
    have dicts : ∀ {b : Addr} {o : Obj} {es : Array DictEntry} {ep : Nat}, s1.heap.get? b = some o → o.data = .dict es ep → H b = none := fun {b o es ep} z d => by
      by_cases hb : b = a
      · rw [hb, at_] at z
        obtain rfl := Option.some.inj z
        exact (nomatch (show Data.seq vs.toArray _ = Data.dict es ep from d))
      · exact alone b hb
    have spaces : ∀ {b : Addr} {m : Str → Option Value}, s1.heap.Ns b m → (hidT s1.heap H).Ns b m := fun {b m} n => by
      obtain ⟨o, es, ep, z, d, r⟩ := n
      exact ⟨o, es, ep, back z (dicts z d), d, r⟩
    have kin2 : K.In (hidT s1.heap H) := fun b o z => back (kin b o z) (by
      by_cases hb : b = a
      · by_cases n : H a = none
        · rw [hb]
          exact n
        · rw [hb, apart n] at z
          cases z
      · exact alone b hb)
    have md : Mod K mg (hidT s1.heap H) := by
      obtain ⟨mc, f1, f2⟩ := free
      exact ⟨kin2, spaces gns, ⟨mb, spaces bns, bis⟩, ⟨mc, spaces f1, f2⟩⟩
    have e0 : Env0 P w K mg (hidT s1.heap H) callerA [] s1 H := ⟨rfl, md, fun b o z => of_hidT z, Nat.le_of_eq (hidT_size _ _), trivial, fun b hb => (List.not_mem_nil hb).elim, hok, AllBare.of_eq gen⟩
    refine codeAny_mono ((F _ kin2 (spaces gns)).run callerA [] s1 H [.ref a] [.ref a] _ rfl room e0 (binds s1 (.ref a)) (.cons rfl .nil) (ends H only seq)) fun r s' got => ?_
    cases r with
    | error z => exact got.elim
    | ok fl =>
      cases fl with
      | next => exact got.elim
      | brk => exact got.elim
      | cont => exact got.elim
      | ret u =>
        obtain ⟨v, H2, os, bare, un, hok2, rv, (rfl : v = .bl true)⟩ := got
        obtain rfl : u = Value.bool true := rv
        refine ⟨rfl, OldK.of_keep fun b o z => ?_, os, bare⟩
        cases hb : H b with
        | none => exact un.keep b o z hb (fun y => by cases (show b ∈ ([] : List Addr) from y)) (by simp)
        | some y =>
          rcases only b with n | ⟨ob, xs, n⟩
          · rw [hb] at n
            cases n
          · obtain ⟨g1, _⟩ := hok b _ n
            obtain ⟨g2, _⟩ := hok2 b _ (un.frzs b ob _ n)
            obtain rfl : o = ob := Option.some.inj (z.symm.trans g1)
            exact g2
  cases hk : K.lookup a with
  | some o =>
    obtain rfl := Option.some.inj ((kin a o hk).symm.trans at_)
    exact go (fun _ => none) (fun _ => Or.inl rfl) (Or.inr ⟨_, vs.toArray, _, hk, rfl, rfl, rfl, by rw [List.size_toArray, many]; exact hl, by simpa using vals⟩) (fun b u z => nomatch z) (fun _ _ => rfl) (fun z => absurd rfl z)
  | none =>
    refine go (fun b => if b = a then some (.frz { cls := .type "list", data := .seq vs.toArray } (.lst (ns.map V.int))) else none) (fun b => ?_) (Or.inl (Or.inr ⟨{ cls := .type "list", data := .seq vs.toArray }, if_pos rfl⟩)) (fun b u z => ?_) (fun b hb => if_neg hb) fun _ => hk
    · by_cases hb : b = a
      · exact Or.inr ⟨_, _, if_pos hb⟩
      · exact Or.inl (if_neg hb)
    · have z : (if b = a then some (HO.frz { cls := .type "list", data := .seq vs.toArray } (.lst (ns.map V.int))) else none) = some u := z
      by_cases hb : b = a
      · rw [if_pos hb] at z
        obtain rfl := Option.some.inj z
        rw [hb]
        exact ⟨at_, by rw [List.length_map]; exact hl, vs, _, vals, at_⟩
      · rw [if_neg hb] at z
        cases z
theorem walkG {l : PySem.W.OpenLaw} {n k : Nat} {q : Program} {loose : List Str} {XP : (Str → Option Value) → Heap → Prop} {YP : World → Heap → Prop} {d : DefRec} {x : Str} (hn : l.most = some n) (hn2 : n ≤ sizeLine) (hdf : d.params.defaults = []) (room : Room k callerA)
    (F : ∀ (w : World) (mg : Str → Option Value) (fa : Addr) (h : Heap), YP w h → h.Ns mainGlobals mg → mg d.name = some (.ref fa) → ∃ (K : PySem.W.Frag) (fd : FuncData) (sp : Sp), K.In h ∧ (∀ (s : Shared) (u : Value), BindsTo s fd ⟨[u], []⟩ [(x, u)]) ∧
      (∀ (H : Hp) (a : Addr) (ns : List Int), ns.length ≤ n → Only H → SqL K H a (ns.map V.int) → sp [.ref a] H (fun v _ => v = .bl true) E0) ∧ ∀ base : Heap, K.In base → base.Ns mainGlobals mg → FnG l.prog w K mg base k fa fd [x] sp) :
    PySem.W.WalkO q loose XP YP l.row.toRowW d [] fun f vs => PySem.call f vs := by
  refine Att.attach_call hn hdf fun w s0 s1 mg mb fa o pm cd doc a vs ns G Y _ _ _ hmg at_ allInt few gen => ?_
  obtain ⟨K, fd, sp, kin, binds, ends, prom⟩ := F w mg fa _ Y G.T.g hmg
  exact lawG_call kin G.T.g G.T.b G.T.builtins G.T.nolimit gen at_ allInt (Nat.le_trans few hn2) room prom binds fun H only seq => ends H a ns few only seq
end Kb
set_option Elab.async false
set_option linter.all false
set_option maxRecDepth 100000
set_option maxHeartbeats 4000000
/-! K84Math: the tests of texts as plain functions. -/
namespace K84
open PySem PySem.Spec PyProof.Rows L2 Kb
open SX (S)
def mirB (a : List Nat) : Bool := decide (a = a.reverse)
def inTx (u v : List Nat) : Bool := !(Builtin.Str.occurrences (S v) (S u) 0 (S v).length 1).isEmpty
def splc (a : List Nat) : List (List Nat) := TL.spl [99] 0 [] a
def fouB (a : List Nat) : Bool := decide (((splc a).length : Int) = 2) && inTx ((splc a).getD 0 []) ((splc a).getD 1 [])
def copB (a : List Nat) : Bool := decide (((splc a).length : Int) = 2) && decide ((splc a).getD 0 [] = (splc a).getD 1 [])
def borB (a : List Nat) : Bool := (List.range (a.length - 1)).any fun i => Txt.endswith (S a) (S (a.take (1 + i)))
def mstB (a : List Nat) : Bool := (List.range (a.length + 1 - 2)).any fun i => mirB (a.take (2 + i))
def balS (d : Int) (c : Nat) : Int := if c = 98 then (if c = 97 then d + 1 else d) - 1 else (if c = 97 then d + 1 else d)
def balB : Int → List Nat → Bool
  | d, [] => decide (d = 0)
  | d, c :: r => if balS d c < 0 then false else balB (balS d c) r
def eveB (a : List Nat) : Bool := decide (Txt.count (S a) (S [97]) = Txt.count (S a) (S [98]))
def thiB (a : List Nat) : Bool := decide (a = List.replicate (a.length / 3) 97 ++ List.replicate (a.length / 3) 98 ++ List.replicate (a.length / 3) 99)
def powB (n : Nat) : Bool := if h : 1 < n ∧ n % 2 = 0 then powB (n / 2) else decide (n = 1)
termination_by n
decreasing_by omega
def twoB (a : List Nat) : Bool := (List.range (a.length - 1)).any fun i => mirB (a.take (1 + i)) && mirB (a.drop (1 + i))
/-- is_even_mirrors: ends behind k turns -/
def evSt (a : List Nat) (ends : List Bool) (e : Nat) : List Nat := (List.range e).filter fun s => ends.getD s false && decide ((e - s) % 2 = 0)
def evN (a : List Nat) : Nat → List Bool
  | 0 => [true]
  | k + 1 => evN a k ++ [(evSt a (evN a k) (k + 1)).any fun s => mirB ((a.take (k + 1)).drop s)]
theorem evN_len (a : List Nat) : ∀ k, (evN a k).length = k + 1
  | 0 => rfl
  | k + 1 => by rw [evN, List.length_append, evN_len a k]; rfl
def evmB (a : List Nat) : Bool := (evN a a.length).getD a.length false
end K84
set_option Elab.async false
set_option linter.all false
set_option maxRecDepth 100000
set_option maxHeartbeats 4000000
/-! K84Tp: what the top has written, as the walks take it. -/
namespace K84
open PySem PySem.Spec PyProof.Rows L2 Kb
open Evl (RetV RetL Ex)
/-- an error class x with the one field f -/
structure ErrC (K : PySem.W.Frag) (x f : Str) : Prop where
  oex : OexC K (He.ga K x)
  nof : PySem.W.findIn K (.ref (He.ga K x)) f = some none
  ini : PySem.W.findIn K (.ref (He.ga K x)) "__init__" = some (some (.ref (He.ma K (He.ga K x) "__init__")))
  fun_ : PySem.W.typeIn K (.ref (He.ma K (He.ga K x) "__init__")) = some (.type "function")
  exc : ExcC K (He.ga K x)
/-- isinstance over its instances -/
structure KitC (K : PySem.W.Frag) (x : Str) : Prop where
  no : ∀ y ∈ others, PySem.W.kitOne K (.ref (He.ga K x)) (.ref (He.ga K y)) = some false
  re : PySem.W.kitOne K (.ref (He.ga K x)) (.ref (He.ga K "RecallError")) = some true
  ve : PySem.W.kitOne K (.ref (He.ga K x)) (.type "ValueError") = some true
structure Tp (w : World) (K : PySem.W.Frag) (mg : Str → Option Value) : Prop where
  df : ∀ (i : Nat) (d : He.DefD), fn[i]? = some d → ∃ fd, FunD K d.name d.qual d.params d.body d.scope (d.dvs K) (d.kws K) (He.fAd K d.at_) fd
  gg : ∀ (i : Nat) (x : Str), (glos ++ glos2)[i]? = some x → mg x = some (.ref (He.ga K x))
  fre : ∀ (i : Nat) (x : Str), frees[i]? = some x → mg x = none
  iM : ∃ t, mg "MOST_LETTERS" = some (.int 400 t)
  iG : ∃ t, mg "MOST_GUESSED" = some (.int 40 t)
  sL : ∃ t, mg "LETTERS_READ" = some (.str "abc" t)
  tN : ∀ H, SqT K H (He.ga K "NAMES") (names15.map tx)
  tE : ∀ H, SqT K H (He.ga K "ENDLESS") [tx [99, 104, 97, 110, 116], tx [114, 111, 117, 110, 100, 115]]
  tG : ∀ H, SqT K H (He.ga K "GUESSING") [tx [116, 119, 111, 109, 105, 114, 114, 111, 114, 115], tx [101, 118, 101, 110, 109, 105, 114, 114, 111, 114, 115]]
  tT : ∀ q ∈ testsV, KDct K w (He.ga K "TESTS") q.1 (.ref (He.ga K q.2))
  cN : ErrC K "NoSuchProgram" "name"
  cB : ErrC K "BadText" "text"
  kN : KitC K "NoSuchProgram"
  kB : KitC K "BadText"
  nb : PySem.W.kitOne K (.ref (He.ga K "NoSuchProgram")) (.ref (He.ga K "BadText")) = some false
  bn : PySem.W.kitOne K (.ref (He.ga K "BadText")) (.ref (He.ga K "NoSuchProgram")) = some false
  eNN : PySem.W.exmOne K (.ref (He.ga K "NoSuchProgram")) (.ref (He.ga K "NoSuchProgram")) = some true
  eBN : PySem.W.exmOne K (.ref (He.ga K "BadText")) (.ref (He.ga K "NoSuchProgram")) = some false
  eBB : PySem.W.exmOne K (.ref (He.ga K "BadText")) (.ref (He.ga K "BadText")) = some true
theorem oexB_ok {K : PySem.W.Frag} {C : Addr} (h : oexB K C = true) : ∃ nm q N bs bm sn sub ab col dd k0 k1 k2 k3 k5, K.lookup C = some (excClassObj nm q C N bs bm true sn sub ab col dd k0 k1 k2 k3 k5 "ValueError.__new__") ∧ PySem.HandSPX.refsVE bm = true := by
  unfold oexB at h
  split at h
  · rename_i d cd sl lk
    split at h
    · rename_i C' bm a0 a1 a2 a3 n a5 hm hs
      simp only [Bool.and_eq_true, decide_eq_true_eq, Bool.not_eq_true'] at h
      obtain ⟨h1, h2, h3, h4, h5⟩ := h
      obtain ⟨nm, bs, mro, ns, qn, hd, names, sb, ab, col, del⟩ := cd
      have hm : mro = .ref C' :: bm := hm
      have h3 : del = false := h3
      have h4 : hd = true := h4
      subst hm h1 h2 h3 h4
      have es : sl = #[a0, a1, a2, a3, some (.builtin "ValueError.__new__"), a5] := by
        have z := congrArg List.toArray hs
        simpa using z
      subst es
      exact ⟨_, _, _, _, _, _, _, _, _, _, _, _, _, _, _, lk, h5⟩
    · cases h
  · cases h
theorem clsB_ok {K : PySem.W.Frag} {x f : Str} (h : clsB K x f = true) : ErrC K x f := by
  unfold clsB at h
  simp only [decide_eq_true_eq, Bool.and_eq_true] at h
  obtain ⟨⟨⟨⟨⟨⟨⟨⟨⟨⟨⟨⟨⟨⟨h1, h2⟩, h3⟩, h4⟩, h5⟩, h6⟩, h7⟩, h8⟩, h9⟩, h10⟩, h11⟩, h12⟩, h13⟩, h14⟩, h15⟩ := h
  exact ⟨⟨oexB_ok h1, h2, h3, h4, h5⟩, h6, h7, h8, ⟨h9, h10, h3, h11, h12, h13, h14, h15⟩⟩
theorem kitB2_ok {K : PySem.W.Frag} {x : Str} (h : kitB2 K x = true) : KitC K x := by
  unfold kitB2 at h
  simp only [Bool.and_eq_true, decide_eq_true_eq, List.all_eq_true] at h
  obtain ⟨⟨h1, h2⟩, h3⟩ := h
  exact ⟨fun y hy => h1 y hy, h2, h3⟩
theorem names_v (K : PySem.W.Frag) : namesD.map (He.Dv.v K) = names15.map tx := by
  unfold namesD
  rw [List.map_map]
  show ([_, _, _, _, _, _, _, _, _, _, _, _, _, _, _] : List V) = _
  have z : (["mirrored", "found", "bordered", "mirrorstart", "balanced", "evenly", "copied", "thirds", "power", "backwards", "doubling", "chant", "rounds", "twomirrors", "evenmirrors"].map fun x => V.str (Str.ofString x)) = names15.map tx := by decide +kernel
  exact z
theorem tp_of {w : World} {K : PySem.W.Frag} {h : Heap} {mg : Str → Option Value} (X : K.In h) (G : h.Ns mainGlobals mg) (c : He.SaysT fa fn [(fun K => He.ga K "TESTS", testsV.map (·.1))] w K) (e : ex K = true) : Tp w K mg := by
  unfold ex exA exB exC at e
  simp only [Bool.and_eq_true, decide_eq_true_eq] at e
  obtain ⟨⟨⟨⟨⟨e1, e2⟩, e3⟩, e4⟩, ⟨⟨⟨e5, e6⟩, e7⟩, e8⟩⟩, ⟨⟨⟨⟨e9, e10⟩, e11⟩, e12⟩, e13⟩⟩ := e
  have fact : ∀ f ∈ fa, f.ok K = true := fun f hf => by
    have c1 := (Bool.and_eq_true_iff.mp (congrArg (fun z : He.AlD => z.1) c.d)).1
    exact List.all_eq_true.mp c1 f hf
  have mem1 : ∀ x ∈ glos ++ glos2, He.Fa.glo x ∈ fa := fun x hx => List.mem_append_left _ (List.mem_append_left _ (List.mem_map_of_mem hx))
  have mem2 : ∀ x ∈ frees, He.Fa.free x ∈ fa := fun x hx => List.mem_append_left _ (List.mem_append_right _ (List.mem_map_of_mem hx))
  have mem3 : ∀ f ∈ [He.Fa.int "MOST_LETTERS" 400, He.Fa.int "MOST_GUESSED" 40, He.Fa.str "LETTERS_READ" "abc"], f ∈ fa := fun f hf => List.mem_append_right _ hf
  refine { df := fun i d hi => c.d.def_ i hi, gg := fun i x hi => He.glo_ok X G (fact _ (mem1 x (List.mem_of_getElem? hi))), fre := fun i x hi => He.free_ok X G (fact _ (mem2 x (List.mem_of_getElem? hi))), iM := He.int_ok X G (fact _ (mem3 _ List.mem_cons_self)), iG := He.int_ok X G (fact _ (mem3 _ (List.mem_cons_of_mem _ List.mem_cons_self))), sL := He.str_ok X G (fact _ (mem3 _ (List.mem_cons_of_mem _ (List.mem_cons_of_mem _ List.mem_cons_self)))), tN := fun H => ?_, tE := fun H => ?_, tG := fun H => ?_, tT := fun q hq => ?_, cN := clsB_ok e5, cB := clsB_ok e6, kN := kitB2_ok e7, kB := kitB2_ok e8, nb := e9, bn := e10, eNN := e11, eBN := e12, eBB := e13 }
  · rw [← names_v K]
    exact He.tupB_ok e1 H
  · have z := He.tupB_ok e2 H
    have y : ([.str "chant", .str "rounds"] : List He.Dv).map (He.Dv.v K) = [tx [99, 104, 97, 110, 116], tx [114, 111, 117, 110, 100, 115]] := by
      show ([V.str "chant", V.str "rounds"] : List V) = _
      decide +kernel
    rw [y] at z
    exact z
  · have z := He.tupB_ok e3 H
    have y : ([.str "twomirrors", .str "evenmirrors"] : List He.Dv).map (He.Dv.v K) = [tx [116, 119, 111, 109, 105, 114, 114, 111, 114, 115], tx [101, 118, 101, 110, 109, 105, 114, 114, 111, 114, 115]] := by
      show ([V.str "twomirrors", V.str "evenmirrors"] : List V) = _
      decide +kernel
    rw [y] at z
    exact z
  · obtain ⟨es, n, D⟩ := c.tab 0 (t := (fun K => He.ga K "TESTS", testsV.map (·.1))) rfl
    obtain ⟨u, h1, h2⟩ := He.valsB_ok e4 (q := (q.1, .glo q.2)) (List.mem_map_of_mem hq)
    exact ⟨es, n, u, D.at_, D.lit, h1, h2⟩
section
variable {w : World} {K : PySem.W.Frag} {mg : Str → Option Value} (T : Tp w K mg)
include T
theorem Tp.b_len : mg "len" = none := T.fre 0 _ rfl
theorem Tp.b_range : mg "range" = none := T.fre 1 _ rfl
theorem Tp.b_isinstance : mg "isinstance" = none := T.fre 2 _ rfl
theorem Tp.b_all : mg "all" = none := T.fre 3 _ rfl
theorem Tp.b_any : mg "any" = none := T.fre 4 _ rfl
theorem Tp.b_int : mg "int" = none := T.fre 5 _ rfl
theorem Tp.b_str : mg "str" = none := T.fre 6 _ rfl
theorem Tp.b_bool : mg "bool" = none := T.fre 7 _ rfl
theorem Tp.b_tuple : mg "tuple" = none := T.fre 8 _ rfl
theorem Tp.b_min : mg "min" = none := T.fre 9 _ rfl
theorem Tp.b_max : mg "max" = none := T.fre 10 _ rfl
theorem Tp.b_repr : mg "repr" = none := T.fre 11 _ rfl
theorem Tp.b_ValueError : mg "ValueError" = none := T.fre 12 _ rfl
end
end K84
set_option Elab.async false
set_option linter.all false
set_option maxRecDepth 100000
set_option maxHeartbeats 4000000
/-! K84A: the program's tests. -/
namespace K84
open PySem PySem.Spec PyProof.Rows L2 Kb
open SX (S)
open Evl (Ev EvL EvT EvA Ex RetV RetL ev_var ev_c s_ret s_asg s_asgL q_asg q_asgL q_when s_when q_if et_or et_not et_and et_B et_test ev_andV ev_notV sq_of eo_some eo_none SpV ev_call ea_cons ea_nil)
def spIsText (K : PySem.W.Frag) : Sp := fun vs H Q _ => ∃ (ls : List Nat) (v : V), vs = [tx ls, v] ∧
  ((∃ a, v = tx a ∧ a.length ≤ 1000 ∧ RetV (.bl (decide (a.length ≤ 400) && a.all fun c => decide (c ∈ ls))) H Q) ∨ (IsA K H v "str" false ∧ RetV (.bl false) H Q))
def spT (g : List Nat → Bool) : Sp := fun vs H Q _ => ∃ a : List Nat, vs = [tx a] ∧ a.length ≤ 1000 ∧ RetV (.bl (g a)) H Q
theorem spT_v {g : List Nat → Bool} {a : List Nat} {H : Hp} (h : a.length ≤ 1000) : SpV (spT g) [tx a] H (.bl (g a)) := fun H1 e Q q E => ⟨a, rfl, h, fun H2 e2 => q H2 e2⟩
theorem sc_is_text : FnScope ["letters", "value", "letter"] ["letters", "value"] (defScope (top 23)) := ⟨rfl, rfl, rfl, by decide +kernel, rfl, by decide +kernel, by decide +kernel⟩
theorem ok_is_text {P : Program} {w : World} {K : PySem.W.Frag} {mg : Str → Option Value} {base : Heap} (T : Tp w K mg) : DefOk P w K mg base CX0 "is_text" 1 ["letters", "value"] (spIsText K) := by
  refine mkDef0 (f := He.fAd K ("is_text", none)) (T.df 0 _ rfl) (T.gg 0 _ rfl) sc_is_text (fun vs H Q E h => ?_) (fun _ _ _ _ _ _ us hl => match us, hl with | [_, _], _ => rfl) (fun cdv A outer s H vs Q E hr h => ?_)
  · obtain ⟨ls, v, rfl, _⟩ := h
    rfl
  · obtain ⟨ls, v, rfl, h⟩ := h
    refine ⟨_, (pss_cons (ps_if (PW.pt (pw_or (pt_not (pt_val (pe_callB (isiK K) rfl T.b_isinstance (by decide +kernel) (pa_cons (pv 1) (pa_cons (pe_bltn (v := .ty "str") (u := .type "str") rfl T.b_str (by decide +kernel) rfl) pa_nil))))) (pw_or1 (pt_cmpR op_gt (pe_callB cl_lnS rfl T.b_len (by decide +kernel) (pa_cons (pv 1) pa_nil)) (pe_globI rfl T.iM) (nomark _))))) (pss_one (ps_ret pe_bl)) pss_nil)
      (pss_one (ps_ret (pe_callB (allK K) rfl T.b_all (by decide +kernel) (pa_cons (pe_lc (own := [("letter", 2)]) (g := gName 2) (tt := tYes) rfl sc_is_text.nd (pi_str (pv 1)) (blkOk_by (N := ["letters", "value", "letter"]) (sc := defScope (top 23)) (by decide +kernel)) (fun _ _ _ _ _ => (pg_name (i := 2) sc_is_text.nd rfl (by first | exact Or.inl rfl | exact Or.inr rfl))) (fun _ _ _ _ _ => pts_nil) (fun _ _ _ _ _ => (pe_cmpR op_in_sign (pv 2) (pv 0) (by rfl)))) pa_nil))))), ?_⟩
    rcases h with ⟨a, rfl, hz, k⟩ | ⟨hi, k⟩
    · refine q_when (et_or (et_not (et_B (ev_isi (ev_var rfl) (isA_str (k := true) _ "str" (by decide +kernel))))) fun _ => et_test (ev_gt (ev_lnS (ev_var rfl) (by omega) rfl) ev_c)) (fun hb H1 e1 => s_ret ev_c fun H2 e2 => ?_) (fun hb H1 e1 => s_ret (ev_allM (g := fun c => decide (c ∈ ls)) (el_sta _ (ev_var rfl) (by omega) fun c H2 e2 hc => ev_inC (ev_var rfl) (ev_var rfl)) rfl) fun H2 e2 => ?_)
      · have z : (decide (a.length ≤ 400) && a.all fun c => decide (c ∈ ls)) = false := by
          have h1 : (400 : Int) < (a.length : Int) := by simpa using hb
          rw [show decide (a.length ≤ 400) = false from decide_eq_false (by omega)]
          rfl
        rw [z] at k
        exact k H2 (e1.trans e2)
      · have z : (decide (a.length ≤ 400) && a.all fun c => decide (c ∈ ls)) = a.all fun c => decide (c ∈ ls) := by
          have h1 : ¬ (400 : Int) < (a.length : Int) := by simpa using hb
          rw [decide_eq_true (by omega), Bool.true_and]
        rw [z] at k
        exact k H2 (e1.trans e2)
    · exact q_when (et_or (b := false) (et_not (et_B (ev_isi (ev_var rfl) hi))) fun hb => (by cases hb)) (fun _ H1 e1 => s_ret ev_c fun H2 e2 => k H2 (e1.trans e2)) (fun hb => (by cases hb))
theorem sc_is_mirrored : FnScope ["text"] ["text"] (defScope (top 32)) := ⟨rfl, rfl, rfl, by decide +kernel, rfl, by decide +kernel, by decide +kernel⟩
theorem ok_is_mirrored {P : Program} {w : World} {K : PySem.W.Frag} {mg : Str → Option Value} {base : Heap} (T : Tp w K mg) : DefOk P w K mg base CX0 "is_mirrored" 1 ["text"] (spT mirB) := by
  refine mkDef0 (f := He.fAd K ("is_mirrored", none)) (T.df 2 _ rfl) (T.gg 2 _ rfl) sc_is_mirrored (fun vs H Q E h => ?_) (fun _ _ _ _ _ _ us hl => match us, hl with | [_], _ => rfl) (fun cdv A outer s H vs Q E hr h => ?_)
  · obtain ⟨a, rfl, _⟩ := h
    rfl
  · obtain ⟨a, rfl, hz, k⟩ := h
    refine ⟨_, (pss_one (ps_ret (pe_cmpR op_eq (pv 0) (pe_revS (pv 0)) (nomark _)))), ?_⟩
    exact s_ret (ev_eqS (ev_var rfl) (ev_revS (ev_var rfl) (by omega))) k
theorem sc_is_found : FnScope ["text", "parts"] ["text"] (defScope (top 33)) := ⟨rfl, rfl, rfl, by decide +kernel, rfl, by decide +kernel, by decide +kernel⟩
theorem ok_is_found {P : Program} {w : World} {K : PySem.W.Frag} {mg : Str → Option Value} {base : Heap} (T : Tp w K mg) : DefOk P w K mg base CX0 "is_found" 1 ["text"] (spT fouB) := by
  refine mkDef0 (f := He.fAd K ("is_found", none)) (T.df 3 _ rfl) (T.gg 3 _ rfl) sc_is_found (fun vs H Q E h => ?_) (fun _ _ _ _ _ _ us hl => match us, hl with | [_], _ => rfl) (fun cdv A outer s H vs Q E hr h => ?_)
  · obtain ⟨a, rfl, _⟩ := h
    rfl
  · obtain ⟨a, rfl, hz, k⟩ := h
    refine ⟨_, (pss_cons (ps_set (i := 1) sc_is_found.nd rfl (by first | exact Or.inl rfl | exact Or.inr rfl) (pe_m1 PySem.F.slot_str_split PySem.F.type_str_split m_spl (pv 0) (pe_tx (l := [99]) (by decide +kernel))))
      (pss_one (ps_ret (pe_and (pe_cmpR op_eq (pe_callB (clnL K) rfl T.b_len (by decide +kernel) (pa_cons (pv 1) pa_nil)) pe_int (nomark _)) (pe_one (pe_cmpR op_inS (pe_ix (ixL K) (pv 1) pe_int (fun _ _ => rfl)) (pe_ix (ixL K) (pv 1) pe_int (fun _ _ => rfl)) (by rfl))))))), ?_⟩
    refine q_asgL (el_spl (ev_var rfl) ev_tx (by decide) (by decide) (by omega)) fun p H1 hp e1 h1 => s_ret (ev_andV (ev_eqI (ev_lnL (n := ((splc a).length : Int)) (ev_var rfl) (sq_of h1) (by rw [List.length_map]; rfl)) ev_c) fun hb => ?_) fun H2 e2 => k H2 (e1.trans e2)
    have h2 : (splc a).length = 2 := by
      have := of_decide_eq_true hb
      omega
    have g : ∀ i, i < 2 → ((splc a).map tx)[i]? = some (tx ((splc a).getD i [])) := fun i hi => by
      rw [List.getElem?_map, List.getElem?_eq_getElem (by omega)]
      simp [List.getD, List.getElem?_eq_getElem (show i < (splc a).length by omega)]
    exact ev_inS (ev_ixL (k := 0) (ev_var rfl) ev_c (sq_of h1) (g 0 (by omega))) (ev_ixL (k := 1) (ev_var rfl) ev_c (sq_of h1) (g 1 (by omega))) rfl
theorem sc_is_copied : FnScope ["text", "parts"] ["text"] (defScope (top 38)) := ⟨rfl, rfl, rfl, by decide +kernel, rfl, by decide +kernel, by decide +kernel⟩
theorem ok_is_copied {P : Program} {w : World} {K : PySem.W.Frag} {mg : Str → Option Value} {base : Heap} (T : Tp w K mg) : DefOk P w K mg base CX0 "is_copied" 1 ["text"] (spT copB) := by
  refine mkDef0 (f := He.fAd K ("is_copied", none)) (T.df 8 _ rfl) (T.gg 8 _ rfl) sc_is_copied (fun vs H Q E h => ?_) (fun _ _ _ _ _ _ us hl => match us, hl with | [_], _ => rfl) (fun cdv A outer s H vs Q E hr h => ?_)
  · obtain ⟨a, rfl, _⟩ := h
    rfl
  · obtain ⟨a, rfl, hz, k⟩ := h
    refine ⟨_, (pss_cons (ps_set (i := 1) sc_is_copied.nd rfl (by first | exact Or.inl rfl | exact Or.inr rfl) (pe_m1 PySem.F.slot_str_split PySem.F.type_str_split m_spl (pv 0) (pe_tx (l := [99]) (by decide +kernel))))
      (pss_one (ps_ret (pe_and (pe_cmpR op_eq (pe_callB (clnL K) rfl T.b_len (by decide +kernel) (pa_cons (pv 1) pa_nil)) pe_int (nomark _)) (pe_one (pe_cmpR op_eq (pe_ix (ixL K) (pv 1) pe_int (fun _ _ => rfl)) (pe_ix (ixL K) (pv 1) pe_int (fun _ _ => rfl)) (nomark _))))))), ?_⟩
    refine q_asgL (el_spl (ev_var rfl) ev_tx (by decide) (by decide) (by omega)) fun p H1 hp e1 h1 => s_ret (ev_andV (ev_eqI (ev_lnL (n := ((splc a).length : Int)) (ev_var rfl) (sq_of h1) (by rw [List.length_map]; rfl)) ev_c) fun hb => ?_) fun H2 e2 => k H2 (e1.trans e2)
    have h2 : (splc a).length = 2 := by
      have := of_decide_eq_true hb
      omega
    have g : ∀ i, i < 2 → ((splc a).map tx)[i]? = some (tx ((splc a).getD i [])) := fun i hi => by
      rw [List.getElem?_map, List.getElem?_eq_getElem (by omega)]
      simp [List.getD, List.getElem?_eq_getElem (show i < (splc a).length by omega)]
    exact ev_eqS (ev_ixL (k := 0) (ev_var rfl) ev_c (sq_of h1) (g 0 (by omega))) (ev_ixL (k := 1) (ev_var rfl) ev_c (sq_of h1) (g 1 (by omega)))
theorem sc_is_bordered : FnScope ["text", "size"] ["text"] (defScope (top 34)) := ⟨rfl, rfl, rfl, by decide +kernel, rfl, by decide +kernel, by decide +kernel⟩
theorem ok_is_bordered {P : Program} {w : World} {K : PySem.W.Frag} {mg : Str → Option Value} {base : Heap} (T : Tp w K mg) : DefOk P w K mg base CX0 "is_bordered" 1 ["text"] (spT borB) := by
  refine mkDef0 (f := He.fAd K ("is_bordered", none)) (T.df 4 _ rfl) (T.gg 4 _ rfl) sc_is_bordered (fun vs H Q E h => ?_) (fun _ _ _ _ _ _ us hl => match us, hl with | [_], _ => rfl) (fun cdv A outer s H vs Q E hr h => ?_)
  · obtain ⟨a, rfl, _⟩ := h
    rfl
  · obtain ⟨a, rfl, hz, k⟩ := h
    refine ⟨_, (pss_one (ps_ret (pe_callB (anyK K) rfl T.b_any (by decide +kernel) (pa_cons (pe_lc (own := [("size", 1)]) (g := gName 1) (tt := tYes) rfl sc_is_bordered.nd (pi_range2 rfl T.b_range (pa_cons pe_int (pa_cons (pe_callB cl_lnS rfl T.b_len (by decide +kernel) (pa_cons (pv 0) pa_nil)) pa_nil))) (blkOk_by (N := ["text", "size"]) (sc := defScope (top 34)) (by decide +kernel)) (fun _ _ _ _ _ => (pg_name (i := 1) sc_is_bordered.nd rfl (by first | exact Or.inl rfl | exact Or.inr rfl))) (fun _ _ _ _ _ => pts_nil) (fun _ _ _ _ _ => (pe_m1 PySem.F.slot_str_endswith PySem.F.type_str_endswith m_end (pv 0) (pe_slice sl_str (pv 0) po_none (po_some (pv 1)))))) pa_nil)))), ?_⟩
    refine s_ret (ev_anyM (xs := List.range (a.length - 1)) (g := fun i => Txt.endswith (S a) (S (a.take (1 + i)))) ?_ rfl) k
    have e : ((a.length : Int) - 1).toNat = a.length - 1 := by omega
    rw [← e]
    refine el_r2a _ ev_c (ev_lnS (ev_var rfl) (by omega) rfl) (by omega) fun i H1 e1 hi => ?_
    exact ev_end (ev_var rfl) (ev_to (k := 1 + i) (ev_var rfl) (eo_some (Evl.ev_is (ev_var rfl) (by rw [Int.natCast_add]; rfl))) (by omega)) rfl
theorem sc_is_mirrorstart : FnScope ["text", "size"] ["text"] (defScope (top 35)) := ⟨rfl, rfl, rfl, by decide +kernel, rfl, by decide +kernel, by decide +kernel⟩
theorem ok_is_mirrorstart {P : Program} {w : World} {K : PySem.W.Frag} {mg : Str → Option Value} {base : Heap} (T : Tp w K mg) : DefOk P w K mg base CX0 "is_mirrorstart" 2 ["text"] (spT mstB) := by
  have D_is_mirrored := ok_is_mirrored (P := P) (base := base) T
  refine mkDef0 (f := He.fAd K ("is_mirrorstart", none)) (T.df 5 _ rfl) (T.gg 5 _ rfl) sc_is_mirrorstart (fun vs H Q E h => ?_) (fun _ _ _ _ _ _ us hl => match us, hl with | [_], _ => rfl) (fun cdv A outer s H vs Q E hr h => ?_)
  · obtain ⟨a, rfl, _⟩ := h
    rfl
  · obtain ⟨a, rfl, hz, k⟩ := h
    refine ⟨_, (pss_one (ps_ret (pe_callB (anyK K) rfl T.b_any (by decide +kernel) (pa_cons (pe_lc (own := [("size", 1)]) (g := gName 1) (tt := tYes) rfl sc_is_mirrorstart.nd (pi_range2 rfl T.b_range (pa_cons pe_int (pa_cons (pe_op op_add (pe_callB cl_lnS rfl T.b_len (by decide +kernel) (pa_cons (pv 0) pa_nil)) pe_int) pa_nil))) (blkOk_by (N := ["text", "size"]) (sc := defScope (top 35)) (by decide +kernel)) (fun _ _ _ _ _ => (pg_name (i := 1) sc_is_mirrorstart.nd rfl (by first | exact Or.inl rfl | exact Or.inr rfl))) (fun _ _ _ _ _ => pts_nil) (fun _ _ _ _ _ => (pe_D D_is_mirrored (by decide) hr (pa_cons (pe_slice sl_str (pv 0) po_none (po_some (pv 1))) pa_nil)))) pa_nil)))), ?_⟩
    refine s_ret (ev_anyM (xs := List.range (a.length + 1 - 2)) (g := fun i => mirB (a.take (2 + i))) ?_ rfl) k
    have e : ((a.length : Int) + 1 - 2).toNat = a.length + 1 - 2 := by omega
    rw [← e]
    refine el_r2a _ ev_c (ev_add (ev_lnS (ev_var rfl) (by omega) rfl) ev_c) (by omega) fun i H1 e1 hi => ?_
    exact ev_call (ea_cons (ev_to (k := 2 + i) (ev_var rfl) (eo_some (Evl.ev_is (ev_var rfl) (by rw [Int.natCast_add]; rfl))) (by omega)) ea_nil) (spT_v (by rw [List.length_take]; omega))
theorem sc_is_evenly : FnScope ["text"] ["text"] (defScope (top 37)) := ⟨rfl, rfl, rfl, by decide +kernel, rfl, by decide +kernel, by decide +kernel⟩
theorem ok_is_evenly {P : Program} {w : World} {K : PySem.W.Frag} {mg : Str → Option Value} {base : Heap} (T : Tp w K mg) : DefOk P w K mg base CX0 "is_evenly" 1 ["text"] (spT eveB) := by
  refine mkDef0 (f := He.fAd K ("is_evenly", none)) (T.df 7 _ rfl) (T.gg 7 _ rfl) sc_is_evenly (fun vs H Q E h => ?_) (fun _ _ _ _ _ _ us hl => match us, hl with | [_], _ => rfl) (fun cdv A outer s H vs Q E hr h => ?_)
  · obtain ⟨a, rfl, _⟩ := h
    rfl
  · obtain ⟨a, rfl, hz, k⟩ := h
    refine ⟨_, (pss_one (ps_ret (pe_cmpR op_eq (pe_m1 PySem.F.slot_str_count PySem.F.type_str_count m_cnt (pv 0) (pe_tx (l := [97]) (by decide +kernel))) (pe_m1 PySem.F.slot_str_count PySem.F.type_str_count m_cnt (pv 0) (pe_tx (l := [98]) (by decide +kernel))) (nomark _)))), ?_⟩
    exact s_ret (ev_eqI (ev_cnt (ev_var rfl) ev_tx rfl) (ev_cnt (ev_var rfl) ev_tx rfl)) k
end K84
set_option Elab.async false
set_option linter.all false
set_option maxRecDepth 100000
set_option maxHeartbeats 4000000
/-! K84B: the program's tests with loops. -/
namespace K84
open PySem PySem.Spec PyProof.Rows L2 Kb
open SX (S)
open Evl (Ev EvL EvT EvA Ex RetV RetL ev_var ev_c s_ret s_asg s_asgL q_asg q_asgL q_when s_when q_if et_or et_not et_and et_B et_test ev_andV ev_notV sq_of eo_some eo_none SpV ev_call ea_cons ea_nil q_ifAsg s_ifAsg q_while s_app q_app el_lst ev_is)
theorem set3 {a b c : Option V} {v : V} : ([a, b, c] : List (Option V)).set 1 (some v) = [a, some v, c] := rfl
theorem sc_is_balanced : FnScope ["text", "depth", "letter"] ["text"] (defScope (top 36)) := ⟨rfl, rfl, rfl, by decide +kernel, rfl, by decide +kernel, by decide +kernel⟩
theorem ok_is_balanced {P : Program} {w : World} {K : PySem.W.Frag} {mg : Str → Option Value} {base : Heap} (T : Tp w K mg) : DefOk P w K mg base CX0 "is_balanced" 1 ["text"] (spT (balB 0)) := by
  refine mkDef0 (f := He.fAd K ("is_balanced", none)) (T.df 6 _ rfl) (T.gg 6 _ rfl) sc_is_balanced (fun vs H Q E h => ?_) (fun _ _ _ _ _ _ us hl => match us, hl with | [_], _ => rfl) (fun cdv A outer s H vs Q E hr h => ?_)
  · obtain ⟨a, rfl, _⟩ := h
    rfl
  · obtain ⟨a, rfl, hz, k⟩ := h
    refine ⟨_, (pss_cons (ps_set (i := 1) sc_is_balanced.nd rfl (by first | exact Or.inl rfl | exact Or.inr rfl) pe_int)
      (pss_cons (ps_for PassesOwn.never rfl (pi_str (pv 0)) (pg_name (i := 2) sc_is_balanced.nd rfl (by first | exact Or.inl rfl | exact Or.inr rfl)) (pss_cons (ps_if (pt_cmpR op_eq (pv 2) (pe_tx (l := [97]) (by decide +kernel)) (nomark _)) (pss_one (ps_set (i := 1) sc_is_balanced.nd rfl (by first | exact Or.inl rfl | exact Or.inr rfl) (pe_op op_add (pv 1) pe_int))) pss_nil)
      (pss_cons (ps_if (pt_cmpR op_eq (pv 2) (pe_tx (l := [98]) (by decide +kernel)) (nomark _)) (pss_one (ps_set (i := 1) sc_is_balanced.nd rfl (by first | exact Or.inl rfl | exact Or.inr rfl) (pe_op op_sub (pv 1) pe_int))) pss_nil)
      (pss_one (ps_if (pt_cmpR op_lt (pv 1) pe_int (nomark _)) (pss_one (ps_ret pe_bl)) pss_nil)))))
      (pss_one (ps_ret (pe_cmpR op_eq (pv 1) pe_int (nomark _)))))), ?_⟩
    refine q_asg ev_c fun H1 e1 => q_forS (ev_var rfl) (fun i σ H' => ∃ (d : Int) (y : Option V), σ = [some (tx a), some (.int d), y] ∧ balB 0 a = balB d (a.drop i) ∧ Ex H H') (fun H2 e2 => ⟨0, none, rfl, rfl, e1.trans e2⟩) (fun i c σ H' hc hp => ?_) (fun σ H' hp => ?_)
    · obtain ⟨d, y, rfl, hb0, e⟩ := hp
      have hdr : a.drop i = c :: a.drop (i + 1) := by
        obtain ⟨hi, hc2⟩ := List.getElem?_eq_some_iff.mp hc
        rw [List.drop_eq_getElem_cons hi, hc2]
      have e97 : decide (([c] : List Nat) = [97]) = decide (c = 97) := by simp
      have e98 : decide (([c] : List Nat) = [98]) = decide (c = 98) := by simp
      refine q_ifAsg (v := .int (if c = 97 then d + 1 else d)) (et_test (ev_eqS (a := [c]) (ev_var rfl) ev_tx)) (fun hb => ?_) (fun hb => ?_) fun H1 e1 => ?_
      · rw [e97] at hb
        rw [if_pos (of_decide_eq_true hb)]
        exact ev_add (ev_var rfl) ev_c
      · rw [e97] at hb
        rw [if_neg (of_decide_eq_false hb)]
        rfl
      refine q_ifAsg (v := .int (balS d c)) (et_test (ev_eqS (a := [c]) (ev_var rfl) ev_tx)) (fun hb => ?_) (fun hb => ?_) fun H2 e2 => ?_
      · rw [e98] at hb
        unfold balS
        rw [if_pos (of_decide_eq_true hb)]
        exact ev_sub (ev_var rfl) ev_c
      · rw [e98] at hb
        unfold balS
        rw [if_neg (of_decide_eq_false hb)]
        rfl
      have hB : balB d (a.drop i) = if balS d c < 0 then false else balB (balS d c) (a.drop (i + 1)) := by rw [hdr]; rfl
      refine s_when (et_test (ev_lt (i := balS d c) (ev_var rfl) ev_c)) (fun hb => ?_) (fun hb => ?_)
      · intro H3 e3
        have h0 := of_decide_eq_true hb
        rw [hB, if_pos h0] at hb0
        refine s_ret ev_c fun H4 e4 => ?_
        rw [hb0] at k
        exact k H4 ((((e.trans e1).trans e2).trans e3).trans e4)
      · intro H3 e3
        have h0 := of_decide_eq_false hb
        rw [hB, if_neg h0] at hb0
        exact ⟨balS d c, _, rfl, hb0, ((e.trans e1).trans e2).trans e3⟩
    · obtain ⟨d, y, rfl, hb, e⟩ := hp
      rw [List.drop_length] at hb
      rw [hb] at k
      exact s_ret (ev_eqI (ev_var rfl) ev_c) fun H2 e2 => k H2 (e.trans e2)
theorem rep1 (n c : Nat) : (List.replicate n ([c] : List Nat)).flatten = List.replicate n c := by
  induction n with
  | zero => rfl
  | succ n ih => rw [List.replicate_succ, List.flatten_cons, ih, List.replicate_succ]; rfl
theorem sc_is_thirds : FnScope ["text", "size"] ["text"] (defScope (top 39)) := ⟨rfl, rfl, rfl, by decide +kernel, rfl, by decide +kernel, by decide +kernel⟩
theorem ok_is_thirds {P : Program} {w : World} {K : PySem.W.Frag} {mg : Str → Option Value} {base : Heap} (T : Tp w K mg) : DefOk P w K mg base CX0 "is_thirds" 1 ["text"] (spT thiB) := by
  refine mkDef0 (f := He.fAd K ("is_thirds", none)) (T.df 9 _ rfl) (T.gg 9 _ rfl) sc_is_thirds (fun vs H Q E h => ?_) (fun _ _ _ _ _ _ us hl => match us, hl with | [_], _ => rfl) (fun cdv A outer s H vs Q E hr h => ?_)
  · obtain ⟨a, rfl, _⟩ := h
    rfl
  · obtain ⟨a, rfl, hz, k⟩ := h
    refine ⟨_, (pss_cons (ps_set (i := 1) sc_is_thirds.nd rfl (by first | exact Or.inl rfl | exact Or.inr rfl) (pe_op op_fdiv (pe_callB cl_lnS rfl T.b_len (by decide +kernel) (pa_cons (pv 0) pa_nil)) pe_int))
      (pss_one (ps_ret (pe_cmpR op_eq (pv 0) (pe_op op_adS (pe_op op_adS (pe_op op_muS (pe_tx (l := [97]) (by decide +kernel)) (pv 1)) (pe_op op_muS (pe_tx (l := [98]) (by decide +kernel)) (pv 1))) (pe_op op_muS (pe_tx (l := [99]) (by decide +kernel)) (pv 1))) (nomark _))))), ?_⟩
    refine q_asg (v := .int ((a.length / 3 : Nat) : Int)) (ev_div (ev_lnS (ev_var rfl) (by omega) rfl) ev_c (by decide) (by omega)) fun H1 e1 => ?_
    have m : ∀ c : Nat, Ev (tOp rMuS (tC (tx [c])) (tVar 1)) ([some (tx a), some (.int ((a.length / 3 : Nat) : Int))] : L2.St) H1 (tx (List.replicate (a.length / 3) c)) := fun c => by
      have h := ev_muS (σ := ([some (tx a), some (.int ((a.length / 3 : Nat) : Int))] : L2.St)) (H := H1) (ta := tC (tx [c])) (tb := tVar 1) (a := [c]) (i := ((a.length / 3 : Nat) : Int)) 1 1000 ev_tx (ev_var rfl) (by simp) (by omega) (by omega) (by decide) (by decide)
      rw [Int.toNat_natCast, rep1] at h
      exact h
    exact s_ret (ev_eqS (ev_var rfl) (ev_adS (ev_adS (m 97) (m 98) (by simp; omega)) (m 99) (by simp; omega))) fun H2 e2 => k H2 (e1.trans e2)
theorem sc_is_power : FnScope ["text", "number"] ["text"] (defScope (top 40)) := ⟨rfl, rfl, rfl, by decide +kernel, rfl, by decide +kernel, by decide +kernel⟩
theorem ok_is_power {P : Program} {w : World} {K : PySem.W.Frag} {mg : Str → Option Value} {base : Heap} (T : Tp w K mg) : DefOk P w K mg base CX0 "is_power" 1 ["text"] (spT (fun a => powB a.length)) := by
  refine mkDef0 (f := He.fAd K ("is_power", none)) (T.df 10 _ rfl) (T.gg 10 _ rfl) sc_is_power (fun vs H Q E h => ?_) (fun _ _ _ _ _ _ us hl => match us, hl with | [_], _ => rfl) (fun cdv A outer s H vs Q E hr h => ?_)
  · obtain ⟨a, rfl, _⟩ := h
    rfl
  · obtain ⟨a, rfl, hz, k⟩ := h
    refine ⟨_, (pss_cons (ps_set (i := 1) sc_is_power.nd rfl (by first | exact Or.inl rfl | exact Or.inr rfl) (pe_callB cl_lnS rfl T.b_len (by decide +kernel) (pa_cons (pv 0) pa_nil)))
      (pss_cons (ps_while PassesOwn.never (PW.pt (pw_and (pt_cmpR op_gt (pv 1) pe_int (nomark _)) (pw_and1 (pt_cmpR op_eq (pe_op op_mod (pv 1) pe_int) pe_int (nomark _))))) (pss_one (ps_set (i := 1) sc_is_power.nd rfl (by first | exact Or.inl rfl | exact Or.inr rfl) (pe_op op_fdiv (pv 1) pe_int))))
      (pss_one (ps_ret (pe_cmpR op_eq (pv 1) pe_int (nomark _)))))), ?_⟩
    refine q_asg (v := .int (a.length : Int)) (ev_lnS (ev_var rfl) (by omega) rfl) fun H1 e1 => q_while (fun m σ H' => σ = [some (tx a), some (.int (m : Int))] ∧ powB a.length = powB m ∧ m ≤ 1000 ∧ Ex H H') a.length ⟨rfl, rfl, hz, e1⟩ fun m σ H' hw => ?_
    obtain ⟨rfl, hb, hm, e⟩ := hw
    refine ⟨decide (1 < m) && decide (m % 2 = 0), et_and (Evl.et_is (et_test (ev_gt (i := (m : Int)) (j := 1) (ev_var rfl) ev_c)) (decide_eq_decide.mpr (by omega))) fun h1 => Evl.et_is (et_test (ev_eqI (ev_mod (m := (((m % 2 : Nat)) : Int)) (ev_var rfl) ev_c (by decide) (by omega)) ev_c)) (decide_eq_decide.mpr (by omega)), fun ht H2 e2 => ?_, fun hf H2 e2 => ?_⟩
    · have ht2 : 1 < m ∧ m % 2 = 0 := by simpa using ht
      refine ⟨fun σ2 H3 => σ2 = [some (tx a), some (.int ((m / 2 : Nat) : Int))] ∧ powB a.length = powB (m / 2) ∧ m / 2 ≤ 1000 ∧ Ex H H3, fun σ2 H3 h3 => ⟨m / 2, by omega, h3⟩, s_asg (v := .int ((m / 2 : Nat) : Int)) (ev_div (ev_var rfl) ev_c (by decide) (by omega)) fun H3 e3 => ⟨rfl, ?_, by omega, (e.trans e2).trans e3⟩⟩
      rw [hb]
      conv => lhs; unfold powB
      rw [dif_pos ht2]
    · have hf2 : ¬ (1 < m ∧ m % 2 = 0) := by simpa using hf
      refine s_ret (Evl.ev_is (ev_eqI (i := (m : Int)) (j := 1) (ev_var rfl) ev_c) (v := .bl (decide ((m : Int) = 1))) (w := .bl (powB a.length)) ?_) fun H3 e3 => k H3 ((e.trans e2).trans e3)
      rw [hb]
      unfold powB
      rw [dif_neg hf2]
      exact congrArg V.bl (decide_eq_decide.mpr (by omega))
theorem sc_is_any : FnScope ["text"] ["text"] (defScope (top 41)) := ⟨rfl, rfl, rfl, by decide +kernel, rfl, by decide +kernel, by decide +kernel⟩
theorem ok_is_any {P : Program} {w : World} {K : PySem.W.Frag} {mg : Str → Option Value} {base : Heap} (T : Tp w K mg) : DefOk P w K mg base CX0 "is_any" 1 ["text"] (spT (fun _ => true)) := by
  refine mkDef0 (f := He.fAd K ("is_any", none)) (T.df 11 _ rfl) (T.gg 11 _ rfl) sc_is_any (fun vs H Q E h => ?_) (fun _ _ _ _ _ _ us hl => match us, hl with | [_], _ => rfl) (fun cdv A outer s H vs Q E hr h => ?_)
  · obtain ⟨a, rfl, _⟩ := h
    rfl
  · obtain ⟨a, rfl, hz, k⟩ := h
    refine ⟨_, (pss_one (ps_ret (pe_callB (isiK K) rfl T.b_isinstance (by decide +kernel) (pa_cons (pv 0) (pa_cons (pe_bltn (v := .ty "str") (u := .type "str") rfl T.b_str (by decide +kernel) rfl) pa_nil))))), ?_⟩
    exact s_ret (ev_isi (k := true) (ev_var rfl) (isA_str _ "str" (by decide +kernel))) k
theorem sc_is_two_mirrors : FnScope ["text", "size"] ["text"] (defScope (top 42)) := ⟨rfl, rfl, rfl, by decide +kernel, rfl, by decide +kernel, by decide +kernel⟩
theorem ok_is_two_mirrors {P : Program} {w : World} {K : PySem.W.Frag} {mg : Str → Option Value} {base : Heap} (T : Tp w K mg) : DefOk P w K mg base CX0 "is_two_mirrors" 2 ["text"] (spT twoB) := by
  have D_is_mirrored := ok_is_mirrored (P := P) (base := base) T
  refine mkDef0 (f := He.fAd K ("is_two_mirrors", none)) (T.df 12 _ rfl) (T.gg 12 _ rfl) sc_is_two_mirrors (fun vs H Q E h => ?_) (fun _ _ _ _ _ _ us hl => match us, hl with | [_], _ => rfl) (fun cdv A outer s H vs Q E hr h => ?_)
  · obtain ⟨a, rfl, _⟩ := h
    rfl
  · obtain ⟨a, rfl, hz, k⟩ := h
    refine ⟨_, (pss_one (ps_ret (pe_callB (anyK K) rfl T.b_any (by decide +kernel) (pa_cons (pe_lc (own := [("size", 1)]) (g := gName 1) (tt := tYes) rfl sc_is_two_mirrors.nd (pi_range2 rfl T.b_range (pa_cons pe_int (pa_cons (pe_callB cl_lnS rfl T.b_len (by decide +kernel) (pa_cons (pv 0) pa_nil)) pa_nil))) (blkOk_by (N := ["text", "size"]) (sc := defScope (top 42)) (by decide +kernel)) (fun _ _ _ _ _ => (pg_name (i := 1) sc_is_two_mirrors.nd rfl (by first | exact Or.inl rfl | exact Or.inr rfl))) (fun _ _ _ _ _ => pts_nil) (fun _ _ _ _ _ => (pe_and (pe_D D_is_mirrored (by decide) hr (pa_cons (pe_slice sl_str (pv 0) po_none (po_some (pv 1))) pa_nil)) (pe_one (pe_D D_is_mirrored (by decide) hr (pa_cons (pe_slice sl_str (pv 0) (po_some (pv 1)) po_none) pa_nil)))))) pa_nil)))), ?_⟩
    refine s_ret (ev_anyM (xs := List.range (a.length - 1)) (g := fun i => mirB (a.take (1 + i)) && mirB (a.drop (1 + i))) ?_ rfl) k
    have e : ((a.length : Int) - 1).toNat = a.length - 1 := by omega
    rw [← e]
    refine el_r2a _ ev_c (ev_lnS (ev_var rfl) (by omega) rfl) (by omega) fun i H1 e1 hi => ?_
    exact ev_andV (ev_call (ea_cons (ev_to (k := 1 + i) (ev_var rfl) (eo_some (ev_is (ev_var rfl) (by rw [Int.natCast_add]; rfl))) (by omega)) ea_nil) (spT_v (by rw [List.length_take]; omega)))
      fun _ => ev_call (ea_cons (ev_from (k := 1 + i) (ev_var rfl) (eo_some (ev_is (ev_var rfl) (by rw [Int.natCast_add]; rfl))) (by omega)) ea_nil) (spT_v (by rw [List.length_drop]; omega))
theorem sc_is_even_mirrors : FnScope ["text", "ends", "end", "starts", "start"] ["text"] (defScope (top 43)) := ⟨rfl, rfl, rfl, by decide +kernel, rfl, by decide +kernel, by decide +kernel⟩
theorem ok_is_even_mirrors {P : Program} {w : World} {K : PySem.W.Frag} {mg : Str → Option Value} {base : Heap} (T : Tp w K mg) : DefOk P w K mg base CX0 "is_even_mirrors" 2 ["text"] (spT evmB) := by
  have D_is_mirrored := ok_is_mirrored (P := P) (base := base) T
  refine mkDef0 (f := He.fAd K ("is_even_mirrors", none)) (T.df 13 _ rfl) (T.gg 13 _ rfl) sc_is_even_mirrors (fun vs H Q E h => ?_) (fun _ _ _ _ _ _ us hl => match us, hl with | [_], _ => rfl) (fun cdv A outer s H vs Q E hr h => ?_)
  · obtain ⟨a, rfl, _⟩ := h
    rfl
  · obtain ⟨a, rfl, hz, k⟩ := h
    refine ⟨_, (pss_cons (ps_set (i := 1) sc_is_even_mirrors.nd rfl (by first | exact Or.inl rfl | exact Or.inr rfl) (pe_lst (pa_cons pe_bl pa_nil)))
      (pss_cons (ps_for PassesOwn.never rfl (pi_range2 rfl T.b_range (pa_cons pe_int (pa_cons (pe_op op_add (pe_callB cl_lnS rfl T.b_len (by decide +kernel) (pa_cons (pv 0) pa_nil)) pe_int) pa_nil))) (pg_name (i := 2) sc_is_even_mirrors.nd rfl (by first | exact Or.inl rfl | exact Or.inr rfl)) (pss_cons (ps_setLc (i := 3) (own := [("start", 4)]) (g := gName 4)  rfl sc_is_even_mirrors.nd rfl rfl (sw_true rfl rfl rfl (by decide +kernel)) (pi_range1 rfl T.b_range (pa_cons (pv 2) pa_nil)) (blkOk_by (N := ["text", "ends", "end", "starts", "start"]) (sc := defScope (top 43)) (by decide +kernel)) (fun _ _ _ _ _ => (pg_name (i := 4) sc_is_even_mirrors.nd rfl (by first | exact Or.inl rfl | exact Or.inr rfl))) (fun _ _ _ _ _ => (pts_one (PW.pt (pw_and (pt_val (pe_ix (ixL K) (pv 1) (pv 4) (fun _ _ => rfl))) (pw_and1 (pt_cmpR op_eq (pe_op op_mod (pe_op op_sub (pv 2) (pv 4)) pe_int) pe_int (nomark _))))))) (fun _ _ _ _ _ => (pv 4)))
      (pss_one (ps_expr (pe_bm PySem.F.plainAttrs_list PySem.F.slot_list_append PySem.F.type_list_append mt_append (pv 1) (pa_cons (pe_callB (anyK K) rfl T.b_any (by decide +kernel) (pa_cons (pe_lc (own := [("start", 4)]) (g := gName 4) (tt := tYes) rfl sc_is_even_mirrors.nd (piLK K (pv 3)) (blkOk_by (N := ["text", "ends", "end", "starts", "start"]) (sc := defScope (top 43)) (by decide +kernel)) (fun _ _ _ _ _ => (pg_name (i := 4) sc_is_even_mirrors.nd rfl (by first | exact Or.inl rfl | exact Or.inr rfl))) (fun _ _ _ _ _ => pts_nil) (fun _ _ _ _ _ => (pe_D D_is_mirrored (by decide) hr (pa_cons (pe_slice sl_str (pv 0) (po_some (pv 4)) (po_some (pv 2))) pa_nil)))) pa_nil)) pa_nil))))))
      (pss_one (ps_ret (pe_ix (ixL K) (pv 1) (pe_un un_neg pe_int) (fun _ _ => rfl)))))), ?_⟩
    refine q_asgL (xs := [V.bl true]) (el_lst (ea_cons ev_c ea_nil) (by decide)) fun p H1 hp e1 h1 => ?_
    refine Evl.q_forR2 (lo := 1) (n := (a.length : Int) + 1) (ea_cons ev_c (ea_cons (ev_add (ev_lnS (ev_var rfl) (by omega) rfl) ev_c) ea_nil)) (by omega) (fun i σ H' => ∃ y2 y3 y4, σ = [some (tx a), some (.ref p), y2, y3, y4] ∧ Ex H H' ∧ H' p = some (.lst ((evN a i).map V.bl)))
      (fun H2 e2 => ⟨none, none, none, rfl, e1.trans e2, e2 _ _ h1⟩) (fun i σ H' hi hw => ?_) (fun σ H' hw => ?_)
    · obtain ⟨y2, y3, y4, rfl, e, hl⟩ := hw
      have hi2 : i < a.length := by omega
      refine q_asgL (xs := (evSt a (evN a i) (i + 1)).map fun s : Nat => V.int (s : Int)) ?_ fun q H2 hq e2 h2 => ?_
      · have e3 : ((1 : Int) + (i : Int)).toNat = i + 1 := by omega
        have hx : (evSt a (evN a i) (i + 1)).map (fun s : Nat => V.int (s : Int)) = Evl.given ((1 : Int) + (i : Int)).toNat (fun s => (evN a i).getD s false && decide ((i + 1 - s) % 2 = 0)) (fun s : Nat => V.int (s : Int)) := by
          rw [e3]
          rfl
        rw [hx]
        refine el_r1 _ _ (ev_var rfl) (by omega) (fun s H3 e3 hs => et_and (et_B (ev_ixL (v := .bl ((evN a i).getD s false)) (k := s) (ev_var rfl) (ev_var rfl) (sq_of (e3 _ _ hl)) (by
            rw [List.getElem?_map]
            have : s < (evN a i).length := by rw [evN_len]; omega
            rw [List.getElem?_eq_getElem this]
            simp [List.getD, List.getElem?_eq_getElem this]))) fun _ => Evl.et_is (et_test (ev_eqI (ev_mod (i := 1 + (i : Int) - (s : Int)) (j := 2) (m := (((i + 1 - s) % 2 : Nat) : Int)) (ev_sub (ev_var rfl) (ev_var rfl)) ev_c (by decide) (by omega)) ev_c)) (decide_eq_decide.mpr (by omega))) (fun s H3 e3 hs _ => ev_var rfl)
      · refine s_app (xs := (evN a i).map V.bl) (l := p) (v := .bl ((evSt a (evN a i) (i + 1)).any fun s => mirB ((a.take (i + 1)).drop s))) (e2 _ _ hl) (ev_var rfl) (ev_anyM (g := fun s => mirB ((a.take (i + 1)).drop s)) (el_lsa 0 (fun s : Nat => V.int (s : Int)) _ (ev_var rfl) (sq_of h2) ?_ fun s H3 e3 hs => ?_) rfl) ?_ fun H3 e3 => ?_
        · unfold evSt
          have := List.length_filter_le (fun s => (evN a i).getD s false && decide ((i + 1 - s) % 2 = 0)) (List.range (i + 1))
          rw [List.length_range] at this
          omega
        · exact ev_call (ea_cons (ev_mid (j := s) (k := i + 1) (ev_var rfl) (eo_some (ev_var rfl)) (eo_some (ev_is (ev_var rfl) (by congr 1; omega))) (by omega)) ea_nil) (spT_v (by rw [List.length_drop, List.length_take]; omega))
        · rw [List.length_map, evN_len]
          omega
        · refine ⟨_, _, _, rfl, Ex.mut ((e.trans e2).trans e3) hp, ?_⟩
          rw [upd_same, evN, List.map_append]
          rfl
    · obtain ⟨y2, y3, y4, rfl, e, hl⟩ := hw
      have e3 : ((a.length : Int) + 1 - 1).toNat = a.length := by omega
      rw [e3] at hl
      have hx : ∃ ys, (evN a a.length).map V.bl = ys ++ [V.bl (evmB a)] := by
        unfold evmB
        have hn := evN_len a a.length
        refine ⟨((evN a a.length).map V.bl).dropLast, ?_⟩
        have hne : (evN a a.length).map V.bl ≠ [] := fun z => by
          have := congrArg List.length z
          rw [List.length_map, hn] at this
          cases this
        conv => lhs; rw [← List.dropLast_concat_getLast hne]
        congr 2
        rw [List.getLast_eq_getElem, List.getElem_map]
        congr 1
        have hlt : a.length < (evN a a.length).length := by omega
        simp only [List.length_map, hn, Nat.add_sub_cancel, List.getD, List.getElem?_eq_getElem hlt]
        rfl
      obtain ⟨ys, hy⟩ := hx
      rw [hy] at hl
      exact s_ret (ev_last (ev_var rfl) (sq_of hl)) fun H2 e2 => k H2 (e.trans e2)
end K84
set_option Elab.async false
set_option linter.all false
set_option maxRecDepth 100000
set_option maxHeartbeats 4000000
/-! K84C: the law's cells and digits, its small makers of texts. -/
namespace K84
open PySem PySem.Spec PyProof.Rows L2 Kb
open SX (S)
open Evl (Ev EvL EvT EvA Ex RetV RetL ev_var ev_c s_ret s_retL s_asg s_asgL q_asg q_asgL q_when s_when q_if et_or et_not et_and et_B et_test ev_andV ev_notV sq_of eo_some eo_none SpV ev_call ea_cons ea_nil q_ifAsg s_ifAsg q_while s_app q_app el_lst ev_is ex_l)
def spCell (K : PySem.W.Frag) : Sp := fun vs H Q _ => ∃ (p : Addr) (ns : List Int) (k : Nat), vs = [.ref p, .int (k : Int)] ∧ SqL K H p (ns.map V.int) ∧ ns.length ≤ 63 ∧ k ≤ 100 ∧ ∀ z : Int, RetV (.int z) H Q
def spDig (K : PySem.W.Frag) : Sp := fun vs H Q _ => ∃ (c : Int) (p : Addr) (ns : List Int), vs = [.int c, .ref p] ∧ SqL K H p (ns.map V.int) ∧ ns.length ≤ 1000 ∧ (∀ n ∈ ns, 0 < n ∧ n < 1073741824) ∧
  ∀ rs : List Int, rs.length = ns.length → (∀ (i : Nat) (r n : Int), rs[i]? = some r → ns[i]? = some n → 0 ≤ r ∧ r < n) → RetL (rs.map V.int) H Q
theorem gmap {ns : List Int} {i : Nat} {x : V} (h : (ns.map V.int)[i]? = some x) : ∃ z, x = .int z ∧ ns[i]? = some z := by
  rw [List.getElem?_map] at h
  cases e : ns[i]? with
  | none =>
    rw [e] at h
    cases h
  | some z => rw [e] at h; exact ⟨z, (Option.some.inj h).symm, rfl⟩
theorem gmap2 {ns : List Int} {i : Nat} {z : Int} (h : ns[i]? = some z) : (ns.map V.int)[i]? = some (.int z) := by
  rw [List.getElem?_map, h]
  rfl
theorem sc__law_cell : FnScope ["script", "k", "seed", "cell"] ["script", "k"] (defScope (top 50)) := ⟨rfl, rfl, rfl, by decide +kernel, rfl, by decide +kernel, by decide +kernel⟩
theorem ok__law_cell {P : Program} {w : World} {K : PySem.W.Frag} {mg : Str → Option Value} {base : Heap} (T : Tp w K mg) : DefOk P w K mg base CX0 "_law_cell" 1 ["script", "k"] (spCell K) := by
  refine mkDef0 (f := He.fAd K ("_law_cell", none)) (T.df 18 _ rfl) (T.gg 18 _ rfl) sc__law_cell (fun vs H Q E h => ?_) (fun _ _ _ _ _ _ us hl => match us, hl with | [_, _], _ => rfl) (fun cdv A outer s H vs Q E hr h => ?_)
  · obtain ⟨p, ns, k0, rfl, _⟩ := h
    rfl
  · obtain ⟨p, ns, k0, rfl, hs, hl, hk, k⟩ := h
    refine ⟨_, (pss_cons (ps_if (pt_cmpR op_lt (pv 1) (pe_callB (clnL K) rfl T.b_len (by decide +kernel) (pa_cons (pv 0) pa_nil)) (nomark _)) (pss_one (ps_ret (pe_ix (ixL K) (pv 0) (pv 1) (fun _ _ => rfl)))) pss_nil)
      (pss_cons (ps_set (i := 2) sc__law_cell.nd rfl (by first | exact Or.inl rfl | exact Or.inr rfl) pe_int)
      (pss_cons (ps_for PassesOwn.never rfl (piLK K (pv 0)) (pg_name (i := 3) sc__law_cell.nd rfl (by first | exact Or.inl rfl | exact Or.inr rfl)) (pss_one (ps_set (i := 2) sc__law_cell.nd rfl (by first | exact Or.inl rfl | exact Or.inr rfl) (pe_op op_mod (pe_callTy cl_int rfl T.b_int (by decide +kernel) (pa_cons (pe_op op_add (pe_op op_mul (pv 2) pe_int) (pe_op op_mod (pe_callTy cl_int rfl T.b_int (by decide +kernel) (pa_cons (pv 3) pa_nil)) pe_int)) pa_nil)) pe_int))))
      (pss_one (ps_ret (pe_op op_mod (pe_callTy cl_int rfl T.b_int (by decide +kernel) (pa_cons (pe_op op_mul (pe_op op_mul (pe_op op_add (pv 2) pe_int) (pe_op op_add (pv 1) pe_int)) pe_int) pa_nil)) pe_int)))))), ?_⟩
    refine q_when (et_test (ev_lt (i := (k0 : Int)) (j := (ns.length : Int)) (ev_var rfl) (ev_lnL (ev_var rfl) hs (by rw [List.length_map])))) (fun hb H1 e1 => ?_) (fun hb H1 e1 => ?_)
    · have hlt : k0 < ns.length := by
        have := of_decide_eq_true hb
        omega
      exact s_ret (ev_ixL (k := k0) (ev_var rfl) (ev_var rfl) (ex_l e1 hs) (gmap2 (List.getElem?_eq_getElem hlt))) fun H2 e2 => k _ H2 (e1.trans e2)
    refine q_asg ev_c fun H2 e2 => ?_
    refine Evl.q_forLn (a := p) (xs := ns.map V.int) (ev_var rfl) (ex_l (e1.trans e2) hs) (fun i σ H' => ∃ (d : Int) (y : Option V), σ = [some (.ref p), some (.int (k0 : Int)), some (.int d), y] ∧ 0 ≤ d ∧ d < 1000003 ∧ Ex H H') (fun H3 e3 => ⟨17, none, rfl, by decide, by decide, (e1.trans e2).trans e3⟩)
      (fun i σ H' hi hw => ?_) (fun i x σ H' hx hw => ?_) (fun σ H' hw => ?_)
    · obtain ⟨_, _, _, _, _, e⟩ := hw
      exact ex_l e hs
    · obtain ⟨d, y, rfl, h0, h1, e⟩ := hw
      obtain ⟨z, rfl, hz⟩ := gmap hx
      refine s_asg (v := .int ((d * 31 + z % 1000003) % 1000003)) (ev_mod (i := d * 31 + z % 1000003) (j := 1000003) (ev_int (ev_add (ev_mul (m := d * 31) (ev_var rfl) ev_c (.inl (by omega)) rfl) (ev_mod (i := z) (j := 1000003) (ev_int (ev_var rfl)) ev_c (by decide) rfl))) ev_c (by decide) rfl) fun H3 e3 => ?_
      exact ⟨_, _, rfl, by omega, by omega, e.trans e3⟩
    · obtain ⟨d, y, rfl, h0, h1, e⟩ := hw
      refine s_ret (ev_mod (i := (d + 7) * ((k0 : Int) + 3) * 69621) (j := 2147483647) (ev_int (ev_mul (ev_mul (ev_add (ev_var rfl) ev_c) (ev_add (ev_var rfl) ev_c) (.inl (by omega)) rfl) ev_c (.inr (by decide)) rfl)) ev_c (by decide) rfl) fun H3 e3 => k _ H3 (e.trans e3)
theorem sc__law_digits : FnScope ["cell", "sizes", "row", "rest", "size", "seed", "k", "twice"] ["cell", "sizes"] (defScope (top 51)) := ⟨rfl, rfl, rfl, by decide +kernel, rfl, by decide +kernel, by decide +kernel⟩
theorem ok__law_digits {P : Program} {w : World} {K : PySem.W.Frag} {mg : Str → Option Value} {base : Heap} (T : Tp w K mg) : DefOk P w K mg base CX0 "_law_digits" 1 ["cell", "sizes"] (spDig K) := by
  refine mkDef0 (f := He.fAd K ("_law_digits", none)) (T.df 19 _ rfl) (T.gg 19 _ rfl) sc__law_digits (fun vs H Q E h => ?_) (fun _ _ _ _ _ _ us hl => match us, hl with | [_, _], _ => rfl) (fun cdv A outer s H vs Q E hr h => ?_)
  · obtain ⟨c, p, ns, rfl, _⟩ := h
    rfl
  · obtain ⟨c, p, ns, rfl, hs, hl, hn, k⟩ := h
    refine ⟨_, (pss_cons (ps_set (i := 2) sc__law_digits.nd rfl (by first | exact Or.inl rfl | exact Or.inr rfl) (pe_lst pa_nil))
      (pss_cons (ps_set (i := 3) sc__law_digits.nd rfl (by first | exact Or.inl rfl | exact Or.inr rfl) (pe_callTy cl_int rfl T.b_int (by decide +kernel) (pa_cons (pv 0) pa_nil)))
      (pss_cons (ps_if (pt_cmpR op_ge (pv 3) (pe_op op_pow pe_int pe_int) (nomark _)) (pss_cons (ps_set (i := 3) sc__law_digits.nd rfl (by first | exact Or.inl rfl | exact Or.inr rfl) (pe_op op_sub (pv 3) (pe_op op_pow pe_int pe_int)))
      (pss_cons (ps_for PassesOwn.never rfl (piLK K (pv 1)) (pg_name (i := 4) sc__law_digits.nd rfl (by first | exact Or.inl rfl | exact Or.inr rfl)) (pss_cons (ps_expr (pe_bm PySem.F.plainAttrs_list PySem.F.slot_list_append PySem.F.type_list_append mt_append (pv 2) (pa_cons (pe_op op_mod (pe_callTy cl_int rfl T.b_int (by decide +kernel) (pa_cons (pv 3) pa_nil)) (pv 4)) pa_nil)))
      (pss_one (ps_set (i := 3) sc__law_digits.nd rfl (by first | exact Or.inl rfl | exact Or.inr rfl) (pe_op op_fdiv (pe_callTy cl_int rfl T.b_int (by decide +kernel) (pa_cons (pv 3) pa_nil)) (pv 4))))))
      (pss_one (ps_ret (pv 2))))) pss_nil)
      (pss_cons (ps_set (i := 5) sc__law_digits.nd rfl (by first | exact Or.inl rfl | exact Or.inr rfl) (pe_op op_mod (pe_callTy cl_int rfl T.b_int (by decide +kernel) (pa_cons (pv 3) pa_nil)) pe_int))
      (pss_cons (ps_for PassesOwn.never rfl (pi_range1 rfl T.b_range (pa_cons (pe_callB (clnL K) rfl T.b_len (by decide +kernel) (pa_cons (pv 1) pa_nil)) pa_nil)) (pg_name (i := 6) sc__law_digits.nd rfl (by first | exact Or.inl rfl | exact Or.inr rfl)) (pss_cons (ps_set (i := 5) sc__law_digits.nd rfl (by first | exact Or.inl rfl | exact Or.inr rfl) (pe_op op_mod (pe_callTy cl_int rfl T.b_int (by decide +kernel) (pa_cons (pe_op op_add (pe_op op_add (pe_op op_mul (pv 5) pe_int) (pe_op op_mul pe_int (pv 6))) pe_int) pa_nil)) pe_int))
      (pss_cons (ps_set (i := 7) sc__law_digits.nd rfl (by first | exact Or.inl rfl | exact Or.inr rfl) (pe_op op_mod (pe_callTy cl_int rfl T.b_int (by decide +kernel) (pa_cons (pe_op op_mul (pv 5) (pe_op op_add (pe_op op_fdiv (pv 5) pe_int) pe_int)) pa_nil)) pe_int))
      (pss_one (ps_expr (pe_bm PySem.F.plainAttrs_list PySem.F.slot_list_append PySem.F.type_list_append mt_append (pv 2) (pa_cons (pe_op op_mod (pe_op op_fdiv (pv 7) pe_int) (pe_ix (ixL K) (pv 1) (pv 6) (fun _ _ => rfl))) pa_nil)))))))
      (pss_one (ps_ret (pv 2)))))))), ?_⟩
    refine q_asgL (xs := []) (el_lst ea_nil (by decide)) fun q H1 hq e1 h1 => ?_
    refine q_asg (ev_int (ev_var rfl)) fun H2 e2 => ?_
    refine q_when (et_test (ev_ge (i := c) (j := 1000000000000000000) (ev_var rfl) (ev_pow ev_c ev_c (by decide) (by decide)))) (fun hb H3 e3 => ?_) (fun hb H3 e3 => ?_)
    · refine q_asg (v := .int (c - 1000000000000000000)) (ev_sub (ev_var rfl) (ev_pow ev_c ev_c (by decide) (by decide))) fun H4 e4 => ?_
      have e04 := ((e1.trans e2).trans e3).trans e4
      refine Evl.q_forLn (a := p) (xs := ns.map V.int) (ev_var rfl) (ex_l e04 hs) (fun i σ H' => ∃ (d : Int) (y4 y5 y6 y7 : Option V) (rs : List Int), σ = [some (.int c), some (.ref p), some (.ref q), some (.int d), y4, y5, y6, y7] ∧ rs.length = i ∧ (∀ (i : Nat) (r n : Int), rs[i]? = some r → ns[i]? = some n → 0 ≤ r ∧ r < n) ∧ Ex H H' ∧ H' q = some (.lst (rs.map V.int)))
        (fun H5 e5 => ⟨_, none, none, none, none, [], rfl, rfl, fun i r n h => by simp at h, e04.trans e5, ((e2.trans e3).trans e4).trans e5 q _ h1⟩) (fun i σ H' hi hw => ?_) (fun i x σ H' hx hw => ?_) (fun σ H' hw => ?_)
      · obtain ⟨_, _, _, _, _, _, _, _, _, e, _⟩ := hw
        exact ex_l e hs
      · obtain ⟨d, y4, y5, y6, y7, rs, rfl, hr, hrs, e, hq2⟩ := hw
        obtain ⟨z, rfl, hz⟩ := gmap hx
        obtain ⟨z0, z1⟩ := hn z (List.mem_of_getElem? hz)
        have hi : i < ns.length := (List.getElem?_eq_some_iff.mp hz).1
        refine q_app (xs := rs.map V.int) (v := .int (d % z)) hq2 (ev_var rfl) (ev_mod (i := d) (j := z) (ev_int (ev_var rfl)) (ev_var rfl) z0 rfl) (by rw [List.length_map]; omega) fun H5 e5 => ?_
        refine s_asg (v := .int (d / z)) (ev_div (i := d) (j := z) (ev_int (ev_var rfl)) (ev_var rfl) ⟨z0, by omega⟩ rfl) fun H6 e6 => ?_
        refine ⟨_, _, _, _, _, rs ++ [d % z], rfl, by rw [List.length_append, hr]; rfl, fun m r n h h2 => ?_, (Ex.mut (e.trans e5) hq).trans e6, e6 _ _ (by rw [upd_same, List.map_append]; rfl)⟩
        by_cases hm : m < rs.length
        · rw [List.getElem?_append_left hm] at h
          exact hrs m r n h h2
        · rw [List.getElem?_append_right (by omega)] at h
          have hm2 : m = i := by
            rw [hr] at h hm
            cases hx : m - i with
            | zero => omega
            | succ j => rw [hx] at h; simp at h
          subst hm2
          rw [hr, Nat.sub_self] at h
          have e7 : d % z = r := Option.some.inj h
          rw [hz] at h2
          have e8 : z = n := Option.some.inj h2
          subst e7 e8
          exact ⟨Int.emod_nonneg _ (by omega), Int.emod_lt_of_pos _ z0⟩
      · obtain ⟨d, y4, y5, y6, y7, rs, rfl, hr, hrs, e, hq2⟩ := hw
        rw [List.length_map] at hr
        exact s_ret (ev_var rfl) fun H5 e5 => k rs hr hrs q H5 hq (e.trans e5) (e5 _ _ hq2)
    · have e03 := (e1.trans e2).trans e3
      refine q_asg (v := .int (c % 2147483629)) (ev_mod (i := c) (j := 2147483629) (ev_int (ev_var rfl)) ev_c (by decide) rfl) fun H4 e4 => ?_
      refine Evl.q_forR1 (n := (ns.length : Int)) (ea_cons (ev_lnL (ev_var rfl) (ex_l (e03.trans e4) hs) (by rw [List.length_map])) ea_nil) (by omega) (fun i σ H' => ∃ (d : Int) (y4 y6 y7 : Option V) (rs : List Int), σ = [some (.int c), some (.ref p), some (.ref q), some (.int c), y4, some (.int d), y6, y7] ∧ (0 ≤ d ∧ d < 2147483647) ∧ rs.length = i ∧ (∀ (i : Nat) (r n : Int), rs[i]? = some r → ns[i]? = some n → 0 ≤ r ∧ r < n) ∧ Ex H H' ∧ H' q = some (.lst (rs.map V.int)))
        (fun H5 e5 => ⟨c % 2147483629, none, none, none, [], rfl, by omega, rfl, fun i r n h => by simp at h, (e03.trans e4).trans e5, ((e2.trans e3).trans e4).trans e5 q _ h1⟩) (fun i σ H' hi hw => ?_) (fun σ H' hw => ?_)
      · obtain ⟨d, y4, y6, y7, rs, rfl, hd, hr, hrs, e, hq2⟩ := hw
        have hi2 : i < ns.length := by omega
        have hz : ns[i]? = some ns[i] := List.getElem?_eq_getElem hi2
        obtain ⟨z0, z1⟩ := hn ns[i] (List.getElem_mem hi2)
        have hd2 : ∃ d2 : Int, (d * 48271 + 974711 * (i : Int) + 12345) % 2147483647 = d2 ∧ 0 ≤ d2 ∧ d2 < 2147483647 := ⟨_, rfl, by omega, by omega⟩
        obtain ⟨d2, ed2, hd20, hd21⟩ := hd2
        refine q_asg (v := .int d2) (ev_mod (i := d * 48271 + 974711 * (i : Int) + 12345) (j := 2147483647) (ev_int (ev_add (ev_add (ev_mul (ev_var rfl) ev_c (.inr (by decide)) rfl) (ev_mul ev_c (ev_var rfl) (.inl (by decide)) rfl)) ev_c)) ev_c (by decide) ed2) fun H5 e5 => ?_
        refine q_asg (v := .int (d2 * (d2 / 65537 + 3) % 2147483629)) (ev_mod (i := d2 * (d2 / 65537 + 3)) (j := 2147483629) (ev_int (ev_mul (ev_var rfl) (ev_add (ev_div (ev_var rfl) ev_c (by decide) rfl) ev_c) (.inl (by omega)) rfl)) ev_c (by decide) rfl) fun H6 e6 => ?_
        refine s_app (xs := rs.map V.int) (v := .int (d2 * (d2 / 65537 + 3) % 2147483629 / 19 % ns[i])) ((e5.trans e6) _ _ hq2) (ev_var rfl) (ev_mod (ev_div (ev_var rfl) ev_c (by decide) rfl) (ev_ixL (k := i) (ev_var rfl) (ev_var rfl) (ex_l ((e.trans e5).trans e6) hs) (gmap2 hz)) z0 rfl) (by rw [List.length_map]; omega) fun H7 e7 => ?_
        refine ⟨d2, _, _, _, rs ++ [d2 * (d2 / 65537 + 3) % 2147483629 / 19 % ns[i]], rfl, ⟨hd20, hd21⟩, by rw [List.length_append, hr]; rfl, fun m r n h h2 => ?_, Ex.mut (((e.trans e5).trans e6).trans e7) hq, by rw [upd_same, List.map_append]; rfl⟩
        by_cases hm : m < rs.length
        · rw [List.getElem?_append_left hm] at h
          exact hrs m r n h h2
        · rw [List.getElem?_append_right (by omega)] at h
          have hm2 : m = i := by
            rw [hr] at h hm
            cases hx : m - i with
            | zero => omega
            | succ j => rw [hx] at h; simp at h
          subst hm2
          rw [hr, Nat.sub_self] at h
          have e7 : d2 * (d2 / 65537 + 3) % 2147483629 / 19 % ns[m] = r := Option.some.inj h
          rw [hz] at h2
          have e8 : ns[m] = n := Option.some.inj h2
          rw [← e7, ← e8]
          exact ⟨Int.emod_nonneg _ (by omega), Int.emod_lt_of_pos _ z0⟩
      · obtain ⟨d, y4, y6, y7, rs, rfl, hd, hr, hrs, e, hq2⟩ := hw
        rw [Int.toNat_natCast] at hr
        exact s_ret (ev_var rfl) fun H5 e5 => k rs hr hrs q H5 hq (e.trans e5) (e5 _ _ hq2)
end K84
set_option Elab.async false
set_option linter.all false
set_option maxRecDepth 100000
set_option maxHeartbeats 4000000
/-! K84D: the law's own tests. -/
namespace K84
open PySem PySem.Spec PyProof.Rows L2 Kb
open SX (S)
open Evl (Ev EvL EvT EvA Ex RetV RetL SpL ev_var ev_c s_ret s_retL s_asg s_asgL q_asg q_asgL q_when s_when s_if q_if et_or et_not et_and et_B et_test ev_andV ev_notV sq_of eo_some eo_none SpV ev_call ea_cons ea_nil q_ifAsg s_ifAsg q_while s_app q_app el_lst ev_is ex_l)
def foldL (a : List Nat) : List Nat := a.take (a.length - a.length / 2) ++ (a.take (a.length / 2)).reverse
def staB (w a : List Nat) : Bool := (List.range ((a.length : Int) - (w.length : Int) + 1).toNat).any fun k => decide ((a.take (k + w.length)).drop k = w)
def levN (a : List Nat) : Nat → List Nat
  | 0 => [0]
  | k + 1 => if (levN a k).any (fun b => decide ((k + 1 - b) % 2 = 0) && mirB ((a.take (k + 1)).drop b)) then levN a k ++ [k + 1] else levN a k
theorem levN_le (a : List Nat) : ∀ k, ∀ b ∈ levN a k, b ≤ k
  | 0, b, h => by
    have : b = 0 := by simpa [levN] using h
    omega
  | k + 1, b, h => by
    unfold levN at h
    split at h
    · rcases List.mem_append.mp h with old | new
      · have := levN_le a k b old
        omega
      · have : b = k + 1 := by simpa using new
        omega
    · have := levN_le a k b h
      omega
theorem levN_len (a : List Nat) : ∀ k, (levN a k).length ≤ k + 1
  | 0 => Nat.le_refl _
  | k + 1 => by
    have := levN_len a k
    unfold levN
    split
    · rw [List.length_append]
      show _ + 1 ≤ _
      omega
    · omega
def levB (a : List Nat) : Bool := decide ((a.length : Int) ∈ (levN a a.length).map fun b : Nat => (b : Int))
def spN : Sp := fun vs H Q _ => vs = [] ∧ RetL (names15.map tx) H Q
def spF (g : List Nat → List Nat) : Sp := fun vs H Q _ => ∃ a : List Nat, vs = [tx a] ∧ a.length ≤ 1000 ∧ RetV (tx (g a)) H Q
theorem spF_v {g : List Nat → List Nat} {a : List Nat} {H : Hp} (h : a.length ≤ 1000) : SpV (spF g) [tx a] H (tx (g a)) := fun H1 e Q q E => ⟨a, rfl, h, fun H2 e2 => q H2 e2⟩
def spBr : Sp := fun vs H Q _ => ∃ a : List Nat, vs = [tx a] ∧ a.length ≤ 1000 ∧ ∀ b : List Nat, Sm (2 * a.length) b → RetV (tx b) H Q
def spT2 (g : List Nat → List Nat → Bool) : Sp := fun vs H Q _ => ∃ w a : List Nat, vs = [tx w, tx a] ∧ w.length ≤ 1000 ∧ a.length ≤ 1000 ∧ RetV (.bl (g w a)) H Q
theorem spT2_v {g : List Nat → List Nat → Bool} {w a : List Nat} {H : Hp} (h1 : w.length ≤ 1000) (h : a.length ≤ 1000) : SpV (spT2 g) [tx w, tx a] H (.bl (g w a)) := fun H1 e Q q E => ⟨w, a, rfl, h1, h, fun H2 e2 => q H2 e2⟩
theorem sc__law_names : FnScope ["names"] [] (defScope (top 52)) := ⟨rfl, rfl, rfl, by decide +kernel, rfl, by decide +kernel, by decide +kernel⟩
theorem ok__law_names {P : Program} {w : World} {K : PySem.W.Frag} {mg : Str → Option Value} {base : Heap} (T : Tp w K mg) : DefOk P w K mg base CX0 "_law_names" 1 [] (spN) := by
  refine mkDef0 (f := He.fAd K ("_law_names", none)) (T.df 20 _ rfl) (T.gg 20 _ rfl) sc__law_names (fun vs H Q E h => ?_) (fun _ _ _ _ _ _ us hl => match us, hl with | [], _ => rfl) (fun cdv A outer s H vs Q E hr h => ?_)
  · obtain ⟨rfl, _⟩ := h
    rfl
  · obtain ⟨rfl, k⟩ := h
    refine ⟨_, (pss_cons (ps_set (i := 0) sc__law_names.nd rfl (by first | exact Or.inl rfl | exact Or.inr rfl) (pe_lst (pa_cons (pe_tx (l := [109, 105, 114, 114, 111, 114, 101, 100]) (by decide +kernel)) (pa_cons (pe_tx (l := [102, 111, 117, 110, 100]) (by decide +kernel)) (pa_cons (pe_tx (l := [98, 111, 114, 100, 101, 114, 101, 100]) (by decide +kernel)) (pa_cons (pe_tx (l := [109, 105, 114, 114, 111, 114, 115, 116, 97, 114, 116]) (by decide +kernel)) (pa_cons (pe_tx (l := [98, 97, 108, 97, 110, 99, 101, 100]) (by decide +kernel)) (pa_cons (pe_tx (l := [101, 118, 101, 110, 108, 121]) (by decide +kernel)) (pa_cons (pe_tx (l := [99, 111, 112, 105, 101, 100]) (by decide +kernel)) (pa_cons (pe_tx (l := [116, 104, 105, 114, 100, 115]) (by decide +kernel)) (pa_cons (pe_tx (l := [112, 111, 119, 101, 114]) (by decide +kernel)) (pa_cons (pe_tx (l := [98, 97, 99, 107, 119, 97, 114, 100, 115]) (by decide +kernel)) pa_nil))))))))))))
      (pss_one (ps_ret (pe_op op_cat (pv 0) (pe_lst (pa_cons (pe_tx (l := [100, 111, 117, 98, 108, 105, 110, 103]) (by decide +kernel)) (pa_cons (pe_tx (l := [99, 104, 97, 110, 116]) (by decide +kernel)) (pa_cons (pe_tx (l := [114, 111, 117, 110, 100, 115]) (by decide +kernel)) (pa_cons (pe_tx (l := [116, 119, 111, 109, 105, 114, 114, 111, 114, 115]) (by decide +kernel)) (pa_cons (pe_tx (l := [101, 118, 101, 110, 109, 105, 114, 114, 111, 114, 115]) (by decide +kernel)) pa_nil)))))))))), ?_⟩
    refine q_asgL (xs := (names15.take 10).map tx) (el_lst (ea_cons ev_tx (ea_cons ev_tx (ea_cons ev_tx (ea_cons ev_tx (ea_cons ev_tx (ea_cons ev_tx (ea_cons ev_tx (ea_cons ev_tx (ea_cons ev_tx (ea_cons ev_tx ea_nil)))))))))) (by decide)) fun p H1 hp e1 h1 => ?_
    exact s_retL (el_catV h1 (ev_var rfl) (el_lst (vs := (names15.drop 10).map tx) (ea_cons ev_tx (ea_cons ev_tx (ea_cons ev_tx (ea_cons ev_tx (ea_cons ev_tx ea_nil))))) (by decide)) (by decide)) fun q H2 hq e2 h2 => k q H2 (Evl.fresh_back e1 hq) (e1.trans e2) h2
theorem sc__law_back : FnScope ["text"] ["text"] (defScope (top 53)) := ⟨rfl, rfl, rfl, by decide +kernel, rfl, by decide +kernel, by decide +kernel⟩
theorem ok__law_back {P : Program} {w : World} {K : PySem.W.Frag} {mg : Str → Option Value} {base : Heap} (T : Tp w K mg) : DefOk P w K mg base CX0 "_law_back" 1 ["text"] (spF List.reverse) := by
  refine mkDef0 (f := He.fAd K ("_law_back", none)) (T.df 21 _ rfl) (T.gg 21 _ rfl) sc__law_back (fun vs H Q E h => ?_) (fun _ _ _ _ _ _ us hl => match us, hl with | [_], _ => rfl) (fun cdv A outer s H vs Q E hr h => ?_)
  · obtain ⟨a, rfl, _⟩ := h
    rfl
  · obtain ⟨a, rfl, hz, k⟩ := h
    refine ⟨_, (pss_one (ps_ret (pe_revS (pv 0)))), ?_⟩
    exact s_ret (ev_revS (ev_var rfl) (by omega)) k
theorem sc__law_mirror : FnScope ["text"] ["text"] (defScope (top 54)) := ⟨rfl, rfl, rfl, by decide +kernel, rfl, by decide +kernel, by decide +kernel⟩
theorem ok__law_mirror {P : Program} {w : World} {K : PySem.W.Frag} {mg : Str → Option Value} {base : Heap} (T : Tp w K mg) : DefOk P w K mg base CX0 "_law_mirror" 2 ["text"] (spT mirB) := by
  have D__law_back := ok__law_back (P := P) (base := base) T
  refine mkDef0 (f := He.fAd K ("_law_mirror", none)) (T.df 22 _ rfl) (T.gg 22 _ rfl) sc__law_mirror (fun vs H Q E h => ?_) (fun _ _ _ _ _ _ us hl => match us, hl with | [_], _ => rfl) (fun cdv A outer s H vs Q E hr h => ?_)
  · obtain ⟨a, rfl, _⟩ := h
    rfl
  · obtain ⟨a, rfl, hz, k⟩ := h
    refine ⟨_, (pss_one (ps_ret (pe_cmpR op_eq (pv 0) (pe_D D__law_back (by decide) hr (pa_cons (pv 0) pa_nil)) (nomark _)))), ?_⟩
    exact s_ret (ev_eqS (ev_var rfl) (ev_call (ea_cons (ev_var rfl) ea_nil) (spF_v hz))) k
theorem sc__law_fold : FnScope ["part", "half"] ["part"] (defScope (top 55)) := ⟨rfl, rfl, rfl, by decide +kernel, rfl, by decide +kernel, by decide +kernel⟩
theorem ok__law_fold {P : Program} {w : World} {K : PySem.W.Frag} {mg : Str → Option Value} {base : Heap} (T : Tp w K mg) : DefOk P w K mg base CX0 "_law_fold" 2 ["part"] (spF foldL) := by
  have D__law_back := ok__law_back (P := P) (base := base) T
  refine mkDef0 (f := He.fAd K ("_law_fold", none)) (T.df 23 _ rfl) (T.gg 23 _ rfl) sc__law_fold (fun vs H Q E h => ?_) (fun _ _ _ _ _ _ us hl => match us, hl with | [_], _ => rfl) (fun cdv A outer s H vs Q E hr h => ?_)
  · obtain ⟨a, rfl, _⟩ := h
    rfl
  · obtain ⟨a, rfl, hz, k⟩ := h
    refine ⟨_, (pss_cons (ps_set (i := 1) sc__law_fold.nd rfl (by first | exact Or.inl rfl | exact Or.inr rfl) (pe_op op_fdiv (pe_callB cl_lnS rfl T.b_len (by decide +kernel) (pa_cons (pv 0) pa_nil)) pe_int))
      (pss_one (ps_ret (pe_op op_adS (pe_slice sl_str (pv 0) po_none (po_some (pe_op op_sub (pe_callB cl_lnS rfl T.b_len (by decide +kernel) (pa_cons (pv 0) pa_nil)) (pv 1)))) (pe_D D__law_back (by decide) hr (pa_cons (pe_slice sl_str (pv 0) po_none (po_some (pv 1))) pa_nil)))))), ?_⟩
    refine q_asg (v := .int ((a.length / 2 : Nat) : Int)) (ev_div (ev_lnS (ev_var rfl) (by omega) rfl) ev_c (by decide) (by omega)) fun H1 e1 => ?_
    exact s_ret (ev_adS (ev_to (k := a.length - a.length / 2) (ev_var rfl) (eo_some (ev_is (ev_sub (ev_lnS (ev_var rfl) (by omega) rfl) (ev_var rfl)) (by congr 1; omega))) (by omega)) (ev_call (ea_cons (ev_to (k := a.length / 2) (ev_var rfl) (eo_some (ev_var rfl)) (by omega)) ea_nil) (spF_v (by rw [List.length_take]; omega))) (by rw [List.length_reverse, List.length_take, List.length_take]; omega)) fun H2 e2 => k H2 (e1.trans e2)
theorem sc__law_brackets : FnScope ["part", "made", "depth", "letter"] ["part"] (defScope (top 56)) := ⟨rfl, rfl, rfl, by decide +kernel, rfl, by decide +kernel, by decide +kernel⟩
theorem ok__law_brackets {P : Program} {w : World} {K : PySem.W.Frag} {mg : Str → Option Value} {base : Heap} (T : Tp w K mg) : DefOk P w K mg base CX0 "_law_brackets" 1 ["part"] (spBr) := by
  refine mkDef0 (f := He.fAd K ("_law_brackets", none)) (T.df 24 _ rfl) (T.gg 24 _ rfl) sc__law_brackets (fun vs H Q E h => ?_) (fun _ _ _ _ _ _ us hl => match us, hl with | [_], _ => rfl) (fun cdv A outer s H vs Q E hr h => ?_)
  · obtain ⟨a, rfl, _⟩ := h
    rfl
  · obtain ⟨a, rfl, hz, k⟩ := h
    refine ⟨_, (pss_cons (ps_set (i := 1) sc__law_brackets.nd rfl (by first | exact Or.inl rfl | exact Or.inr rfl) (pe_tx (l := []) (by decide +kernel)))
      (pss_cons (ps_set (i := 2) sc__law_brackets.nd rfl (by first | exact Or.inl rfl | exact Or.inr rfl) pe_int)
      (pss_cons (ps_for PassesOwn.never rfl (pi_str (pv 0)) (pg_name (i := 3) sc__law_brackets.nd rfl (by first | exact Or.inl rfl | exact Or.inr rfl)) (pss_one (ps_if (PW.pt (pw_or (pt_cmpR op_eq (pv 3) (pe_tx (l := [97]) (by decide +kernel)) (nomark _)) (pw_or1 (PW.pt (pw_and (pt_cmpR op_eq (pv 3) (pe_tx (l := [98]) (by decide +kernel)) (nomark _)) (pw_and1 (pt_cmpR op_eq (pv 2) pe_int (nomark _)))))))) (pss_cons (ps_set (i := 1) sc__law_brackets.nd rfl (by first | exact Or.inl rfl | exact Or.inr rfl) (pe_op op_adS (pv 1) (pe_tx (l := [97]) (by decide +kernel))))
      (pss_one (ps_set (i := 2) sc__law_brackets.nd rfl (by first | exact Or.inl rfl | exact Or.inr rfl) (pe_op op_add (pv 2) pe_int)))) (pss_one (ps_if (pt_cmpR op_eq (pv 3) (pe_tx (l := [98]) (by decide +kernel)) (nomark _)) (pss_cons (ps_set (i := 1) sc__law_brackets.nd rfl (by first | exact Or.inl rfl | exact Or.inr rfl) (pe_op op_adS (pv 1) (pe_tx (l := [98]) (by decide +kernel))))
      (pss_one (ps_set (i := 2) sc__law_brackets.nd rfl (by first | exact Or.inl rfl | exact Or.inr rfl) (pe_op op_sub (pv 2) pe_int)))) (pss_one (ps_set (i := 1) sc__law_brackets.nd rfl (by first | exact Or.inl rfl | exact Or.inr rfl) (pe_op op_adS (pv 1) (pe_tx (l := [99]) (by decide +kernel))))))))))
      (pss_one (ps_ret (pe_op op_adS (pv 1) (pe_op op_muS (pe_tx (l := [98]) (by decide +kernel)) (pv 2)))))))), ?_⟩
    refine q_asg ev_tx fun H1 e1 => q_asg ev_c fun H2 e2 => ?_
    refine q_forS (ev_var rfl) (fun i σ H' => ∃ (m : List Nat) (d : Nat) (y : Option V), σ = [some (tx a), some (tx m), some (.int (d : Int)), y] ∧ Sm i m ∧ d ≤ i ∧ i ≤ a.length ∧ Ex H H') (fun H3 e3 => ⟨[], 0, none, rfl, ⟨Nat.le_refl _, fun c hc => by cases hc⟩, Nat.le_refl _, Nat.zero_le _, (e1.trans e2).trans e3⟩) (fun i c σ H' hc hp => ?_) (fun σ H' hp => ?_)
    · obtain ⟨m, d, y, rfl, hm, hd, hi, e⟩ := hp
      have hm1 := hm.1
      have hi2 : i < a.length := (List.getElem?_eq_some_iff.mp hc).1
      refine s_if (et_or (et_test (ev_eqS (a := [c]) (ev_var rfl) ev_tx)) fun _ => et_and (et_test (ev_eqS (a := [c]) (ev_var rfl) ev_tx)) fun _ => et_test (ev_eqI (i := (d : Int)) (ev_var rfl) ev_c)) (fun hb H3 e3 => ?_) (fun hb H3 e3 => ?_)
      · refine q_asg (v := tx (m ++ [97])) (ev_adS (ev_var rfl) ev_tx (by show _ + 1 ≤ _; omega)) fun H4 e4 => s_asg (v := .int ((d + 1 : Nat) : Int)) (ev_is (ev_add (i := (d : Int)) (ev_var rfl) ev_c) (by rw [Int.natCast_add]; rfl)) fun H5 e5 => ?_
        exact ⟨m ++ [97], d + 1, _, rfl, Sm.app (m := 1) hm ⟨Nat.le_refl 1, by decide⟩, by omega, by omega, ((e.trans e3).trans e4).trans e5⟩
      · refine s_if (et_test (ev_eqS (a := [c]) (ev_var rfl) ev_tx)) (fun hb2 H4 e4 => ?_) (fun hb2 H4 e4 => ?_)
        · have hd0 : d ≠ 0 := by
            intro h0
            subst h0
            rw [hb2] at hb
            simp at hb
          refine q_asg (v := tx (m ++ [98])) (ev_adS (ev_var rfl) ev_tx (by show _ + 1 ≤ _; omega)) fun H5 e5 => s_asg (v := .int ((d - 1 : Nat) : Int)) (ev_is (ev_sub (i := (d : Int)) (ev_var rfl) ev_c) (by congr 1; omega)) fun H6 e6 => ?_
          exact ⟨m ++ [98], d - 1, _, rfl, Sm.app (m := 1) hm ⟨Nat.le_refl 1, by decide⟩, by omega, by omega, (((e.trans e3).trans e4).trans e5).trans e6⟩
        · refine s_asg (v := tx (m ++ [99])) (ev_adS (ev_var rfl) ev_tx (by show _ + 1 ≤ _; omega)) fun H5 e5 => ?_
          exact ⟨m ++ [99], d, _, rfl, Sm.app (m := 1) hm ⟨Nat.le_refl 1, by decide⟩, by omega, by omega, ((e.trans e3).trans e4).trans e5⟩
    · obtain ⟨m, d, y, rfl, hm, hd, hi, e⟩ := hp
      have hm1 := hm.1
      have hr : (List.replicate (d : Int).toNat ([98] : List Nat)).flatten = List.replicate d 98 := by rw [Int.toNat_natCast, rep1]
      refine s_ret (ev_adS (ev_var rfl) (ev_is (ev_muS (a := [98]) (i := (d : Int)) 1 1000 ev_tx (ev_var rfl) (by simp) (by omega) (by omega) (by decide) (by decide)) (by rw [hr])) (by rw [List.length_replicate]; omega)) fun H3 e3 => k _ ?_ H3 (e.trans e3)
      exact (Sm.app hm (b := List.replicate d 98) (m := d) ⟨by rw [List.length_replicate]; exact Nat.le_refl _, fun c hc => by rw [(List.mem_replicate.mp hc).2]; decide⟩).up (by omega)
theorem sc__law_stands : FnScope ["word", "text", "k"] ["word", "text"] (defScope (top 59)) := ⟨rfl, rfl, rfl, by decide +kernel, rfl, by decide +kernel, by decide +kernel⟩
theorem ok__law_stands {P : Program} {w : World} {K : PySem.W.Frag} {mg : Str → Option Value} {base : Heap} (T : Tp w K mg) : DefOk P w K mg base CX0 "_law_stands" 1 ["word", "text"] (spT2 staB) := by
  refine mkDef0 (f := He.fAd K ("_law_stands", none)) (T.df 27 _ rfl) (T.gg 27 _ rfl) sc__law_stands (fun vs H Q E h => ?_) (fun _ _ _ _ _ _ us hl => match us, hl with | [_, _], _ => rfl) (fun cdv A outer s H vs Q E hr h => ?_)
  · obtain ⟨w, a, rfl, _⟩ := h
    rfl
  · obtain ⟨w, a, rfl, h1, h2, k⟩ := h
    refine ⟨_, (pss_one (ps_ret (pe_callB (anyK K) rfl T.b_any (by decide +kernel) (pa_cons (pe_lc (own := [("k", 2)]) (g := gName 2) (tt := tYes) rfl sc__law_stands.nd (pi_range1 rfl T.b_range (pa_cons (pe_op op_add (pe_op op_sub (pe_callB cl_lnS rfl T.b_len (by decide +kernel) (pa_cons (pv 1) pa_nil)) (pe_callB cl_lnS rfl T.b_len (by decide +kernel) (pa_cons (pv 0) pa_nil))) pe_int) pa_nil)) (blkOk_by (N := ["word", "text", "k"]) (sc := defScope (top 59)) (by decide +kernel)) (fun _ _ _ _ _ => (pg_name (i := 2) sc__law_stands.nd rfl (by first | exact Or.inl rfl | exact Or.inr rfl))) (fun _ _ _ _ _ => pts_nil) (fun _ _ _ _ _ => (pe_cmpR op_eq (pe_slice sl_str (pv 1) (po_some (pv 2)) (po_some (pe_op op_add (pv 2) (pe_callB cl_lnS rfl T.b_len (by decide +kernel) (pa_cons (pv 0) pa_nil))))) (pv 0) (nomark _)))) pa_nil)))), ?_⟩
    refine s_ret (ev_anyM (xs := List.range ((a.length : Int) - (w.length : Int) + 1).toNat) (g := fun k => decide ((a.take (k + w.length)).drop k = w)) ?_ rfl) k
    refine el_r1n _ (ev_add (ev_sub (ev_lnS (ev_var rfl) (by omega) rfl) (ev_lnS (ev_var rfl) (by omega) rfl)) ev_c) (by omega) fun i H1 e1 hi => ?_
    exact ev_eqS (ev_mid (j := i) (k := i + w.length) (ev_var rfl) (eo_some (ev_var rfl)) (eo_some (ev_is (ev_add (i := (i : Int)) (ev_var rfl) (ev_lnS (ev_var rfl) (by omega) rfl)) (by congr 1))) (by omega)) (ev_var rfl)
theorem sc__law_evens : FnScope ["text", "ends", "end", "begin"] ["text"] (defScope (top 60)) := ⟨rfl, rfl, rfl, by decide +kernel, rfl, by decide +kernel, by decide +kernel⟩
theorem ok__law_evens {P : Program} {w : World} {K : PySem.W.Frag} {mg : Str → Option Value} {base : Heap} (T : Tp w K mg) : DefOk P w K mg base CX0 "_law_evens" 3 ["text"] (spT levB) := by
  have D__law_mirror := ok__law_mirror (P := P) (base := base) T
  refine mkDef0 (f := He.fAd K ("_law_evens", none)) (T.df 28 _ rfl) (T.gg 28 _ rfl) sc__law_evens (fun vs H Q E h => ?_) (fun _ _ _ _ _ _ us hl => match us, hl with | [_], _ => rfl) (fun cdv A outer s H vs Q E hr h => ?_)
  · obtain ⟨a, rfl, _⟩ := h
    rfl
  · obtain ⟨a, rfl, hz, k⟩ := h
    refine ⟨_, (pss_cons (ps_set (i := 1) sc__law_evens.nd rfl (by first | exact Or.inl rfl | exact Or.inr rfl) (pe_lst (pa_cons pe_int pa_nil)))
      (pss_cons (ps_for PassesOwn.never rfl (pi_range2 rfl T.b_range (pa_cons pe_int (pa_cons (pe_op op_add (pe_callB cl_lnS rfl T.b_len (by decide +kernel) (pa_cons (pv 0) pa_nil)) pe_int) pa_nil))) (pg_name (i := 2) sc__law_evens.nd rfl (by first | exact Or.inl rfl | exact Or.inr rfl)) (pss_one (ps_if (pt_val (pe_callB (anyK K) rfl T.b_any (by decide +kernel) (pa_cons (pe_lc (own := [("begin", 3)]) (g := gName 3) (tt := tYes) rfl sc__law_evens.nd (piLK K (pv 1)) (blkOk_by (N := ["text", "ends", "end", "begin"]) (sc := defScope (top 60)) (by decide +kernel)) (fun _ _ _ _ _ => (pg_name (i := 3) sc__law_evens.nd rfl (by first | exact Or.inl rfl | exact Or.inr rfl))) (fun _ _ _ _ _ => pts_nil) (fun _ _ _ _ _ => (pe_and (pe_cmpR op_eq (pe_op op_mod (pe_callTy cl_int rfl T.b_int (by decide +kernel) (pa_cons (pe_op op_sub (pv 2) (pv 3)) pa_nil)) pe_int) pe_int (nomark _)) (pe_one (pe_D D__law_mirror (by decide) hr (pa_cons (pe_slice sl_str (pv 0) (po_some (pv 3)) (po_some (pv 2))) pa_nil)))))) pa_nil))) (pss_one (ps_expr (pe_bm PySem.F.plainAttrs_list PySem.F.slot_list_append PySem.F.type_list_append mt_append (pv 1) (pa_cons (pv 2) pa_nil)))) pss_nil)))
      (pss_one (ps_ret (pe_cmpR (inSeq K) (pe_callB cl_lnS rfl T.b_len (by decide +kernel) (pa_cons (pv 0) pa_nil)) (pv 1) (by rfl)))))), ?_⟩
    refine q_asgL (xs := [V.int 0]) (el_lst (ea_cons ev_c ea_nil) (by decide)) fun p H1 hp e1 h1 => ?_
    refine Evl.q_forR2 (lo := 1) (n := (a.length : Int) + 1) (ea_cons ev_c (ea_cons (ev_add (ev_lnS (ev_var rfl) (by omega) rfl) ev_c) ea_nil)) (by omega) (fun i σ H' => ∃ y2 y3, σ = [some (tx a), some (.ref p), y2, y3] ∧ Ex H H' ∧ H' p = some (.lst ((levN a i).map fun b : Nat => V.int (b : Int))))
      (fun H2 e2 => ⟨none, none, rfl, e1.trans e2, e2 _ _ h1⟩) (fun i σ H' hi hw => ?_) (fun σ H' hw => ?_)
    · obtain ⟨y2, y3, rfl, e, hl⟩ := hw
      have hi2 : i < a.length := by omega
      have hlen := levN_len a i
      refine s_when (b := (levN a i).any fun b => decide ((i + 1 - b) % 2 = 0) && mirB ((a.take (i + 1)).drop b)) (et_test (ev_anyM (g := fun b => decide ((i + 1 - b) % 2 = 0) && mirB ((a.take (i + 1)).drop b)) (el_lsa 0 (fun s : Nat => V.int (s : Int)) _ (ev_var rfl) (sq_of hl) (by omega) fun s H3 e3 hs => ?_) rfl)) (fun hb H3 e3 => ?_) (fun hb H3 e3 => ?_)
      · have hsl := levN_le a i s hs
        exact ev_andV (ev_is (ev_eqI (ev_mod (i := 1 + (i : Int) - (s : Int)) (j := 2) (m := (((i + 1 - s) % 2 : Nat) : Int)) (ev_int (ev_sub (ev_var rfl) (ev_var rfl))) ev_c (by decide) (by omega)) ev_c) (congrArg V.bl (decide_eq_decide.mpr (by omega)))) fun _ =>
          ev_call (ea_cons (ev_mid (j := s) (k := i + 1) (ev_var rfl) (eo_some (ev_var rfl)) (eo_some (ev_is (ev_var rfl) (by congr 1; omega))) (by omega)) ea_nil) (spT_v (by rw [List.length_drop, List.length_take]; omega))
      · refine s_app (xs := (levN a i).map fun b : Nat => V.int (b : Int)) (l := p) (v := .int (1 + (i : Int))) (e3 _ _ hl) (ev_var rfl) (ev_var rfl) (by rw [List.length_map]; omega) fun H4 e4 => ?_
        refine ⟨_, _, rfl, Ex.mut ((e.trans e3).trans e4) hp, ?_⟩
        rw [upd_same, levN, if_pos hb, List.map_append]
        have : (1 : Int) + (i : Int) = ((i + 1 : Nat) : Int) := by omega
        rw [this]
        rfl
      · refine ⟨_, _, rfl, e.trans e3, ?_⟩
        rw [levN, if_neg (by rw [hb]; decide)]
        exact e3 _ _ hl
    · obtain ⟨y2, y3, rfl, e, hl⟩ := hw
      have e3 : ((a.length : Int) + 1 - 1).toNat = a.length := by omega
      rw [e3] at hl
      have hm : (levN a a.length).map (fun b : Nat => V.int (b : Int)) = ((levN a a.length).map fun b : Nat => (b : Int)).map V.int := by
        rw [List.map_map]
        rfl
      rw [hm] at hl
      exact s_ret (ev_inIL (ev_lnS (ev_var rfl) (by omega) rfl) (ev_var rfl) (sq_of hl)) fun H2 e2 => k H2 (e.trans e2)
end K84
set_option Elab.async false
set_option linter.all false
set_option maxRecDepth 100000
set_option maxHeartbeats 4000000
/-! K84E: the law's verdict on a text. -/
namespace K84
open PySem PySem.Spec PyProof.Rows L2 Kb
open SX (S)
open Evl (Ev EvL EvT EvA Ex RetV RetL SpL ev_var ev_c s_ret s_retL s_asg s_asgL q_asg q_asgL q_when s_when s_if q_if et_or et_not et_and et_B et_test ev_andV ev_notV sq_of eo_some eo_none SpV ev_call ea_cons ea_nil q_ifAsg s_ifAsg q_while s_app q_app el_lst ev_is ex_l)
theorem cnt_S (a : List Nat) (c : Nat) : Txt.count (S a) (S [c]) = ((a.count c : Nat) : Int) := by
  have h : Txt.count (S a) (S [c]) = cnt c a := count_cnt (S a) c
  rw [h]
  clear h
  induction a with
  | nil => rfl
  | cons n r ih =>
    rw [cnt_cons, ih, List.count_cons]
    by_cases e : n = c
    · subst e
      simp
      omega
    · rw [if_neg e, if_neg (by simpa using e)]
      omega
def spoB (a : List Nat) : List Nat := (List.range a.length).filter fun k => decide ([a.getD k 0] = [99])
def spo0 (a : List Nat) : Nat := (spoB a).getD 0 0
def lonB (a : List Nat) : Bool := decide (((spoB a).length : Int) = 1)
def fouG (a : List Nat) : Bool := lonB a && staB (a.take (spo0 a)) (a.drop (spo0 a + 1))
def borG (a : List Nat) : Bool := (List.range (a.length - 1)).any fun i => decide (a.take (1 + i) = a.drop (a.length - (1 + i)))
def heiB (a : List Nat) : List Int := (List.range (a.length + 1)).map fun k => (((a.take k).count 97 : Nat) : Int) - (((a.take k).count 98 : Nat) : Int)
def balG (a : List Nat) : Bool := decide (minI (heiB a) = 0) && decide (((a.count 97 : Nat) : Int) - ((a.count 98 : Nat) : Int) = 0)
def eveG (a : List Nat) : Bool := decide (((a.count 97 : Nat) : Int) = ((a.count 98 : Nat) : Int))
def copG (a : List Nat) : Bool := lonB a && decide (a.take (spo0 a) = a.drop (spo0 a + 1))
def thiG (a : List Nat) : Bool := decide (a = List.replicate (a.count 97) 97 ++ List.replicate (a.count 97) 98 ++ List.replicate (a.count 97) 99)
def powG (n : Nat) : Bool := decide ((n : Int) ∈ ([1, 2, 4, 8, 16, 32, 64, 128, 256] : List Int))
def goodB (nm a : List Nat) : Bool :=
  if nm = [109, 105, 114, 114, 111, 114, 101, 100] then mirB a else
  if nm = [102, 111, 117, 110, 100] then fouG a else
  if nm = [98, 111, 114, 100, 101, 114, 101, 100] then borG a else
  if nm = [109, 105, 114, 114, 111, 114, 115, 116, 97, 114, 116] then mstB a else
  if nm = [98, 97, 108, 97, 110, 99, 101, 100] then balG a else
  if nm = [101, 118, 101, 110, 108, 121] then eveG a else
  if nm = [99, 111, 112, 105, 101, 100] then copG a else
  if nm = [116, 104, 105, 114, 100, 115] then thiG a else
  if nm = [112, 111, 119, 101, 114] then powG a.length else
  if nm = [116, 119, 111, 109, 105, 114, 114, 111, 114, 115] then twoB a else
  if nm = [101, 118, 101, 110, 109, 105, 114, 114, 111, 114, 115] then levB a else
  true
def dueB (nm a : List Nat) : List Nat := if nm ∈ ([[99, 104, 97, 110, 116], [114, 111, 117, 110, 100, 115]] : List (List Nat)) then [101, 110, 100, 108, 101, 115, 115] else if goodB nm a then [121, 101, 115] else [110, 111]
def spDue : Sp := fun vs H Q _ => ∃ w a : List Nat, vs = [tx w, tx a] ∧ w.length ≤ 1000 ∧ a.length ≤ 1000 ∧ RetV (tx (dueB w a)) H Q
theorem repS (n c : Nat) : (List.replicate ((n : Nat) : Int).toNat ([c] : List Nat)).flatten = List.replicate n c := by rw [Int.toNat_natCast, rep1]
theorem spo_one {a : List Nat} (h : (spoB a).length = 1) : spoB a = [spo0 a] := by
  unfold spo0
  match hs : spoB a with
  | [] => rw [hs] at h; cases h
  | [x] => rfl
  | x :: y :: r => rw [hs] at h; cases h
theorem sc__law_good : FnScope ["name", "text", "n", "spots", "lone", "heights", "many", "k"] ["name", "text"] (defScope (top 61)) := ⟨rfl, rfl, rfl, by decide +kernel, rfl, by decide +kernel, by decide +kernel⟩
theorem ok__law_good {P : Program} {w : World} {K : PySem.W.Frag} {mg : Str → Option Value} {base : Heap} (T : Tp w K mg) : DefOk P w K mg base CX0 "_law_good" 4 ["name", "text"] (spT2 goodB) := by
  have D__law_mirror := ok__law_mirror (P := P) (base := base) T
  have D__law_stands := ok__law_stands (P := P) (base := base) T
  have D__law_evens := ok__law_evens (P := P) (base := base) T
  refine mkDef0 (f := He.fAd K ("_law_good", none)) (T.df 29 _ rfl) (T.gg 29 _ rfl) sc__law_good (fun vs H Q E h => ?_) (fun _ _ _ _ _ _ us hl => match us, hl with | [_, _], _ => rfl) (fun cdv A outer s H vs Q E hr h => ?_)
  · obtain ⟨nm, a, rfl, _⟩ := h
    rfl
  · obtain ⟨nm, a, rfl, h1, h2, k⟩ := h
    refine ⟨_, (pss_cons (ps_set (i := 2) sc__law_good.nd rfl (by first | exact Or.inl rfl | exact Or.inr rfl) (pe_callB cl_lnS rfl T.b_len (by decide +kernel) (pa_cons (pv 1) pa_nil)))
      (pss_cons (ps_setLc (i := 3) (own := [("k", 7)]) (g := gName 7)  rfl sc__law_good.nd rfl rfl (sw_true rfl rfl rfl (by decide +kernel)) (pi_range1 rfl T.b_range (pa_cons (pv 2) pa_nil)) (blkOk_by (N := ["name", "text", "n", "spots", "lone", "heights", "many", "k"]) (sc := defScope (top 61)) (by decide +kernel)) (fun _ _ _ _ _ => (pg_name (i := 7) sc__law_good.nd rfl (by first | exact Or.inl rfl | exact Or.inr rfl))) (fun _ _ _ _ _ => (pts_one (pt_cmpR op_eq (pe_ix ix_str (pv 1) (pv 7) (fun _ _ => rfl)) (pe_tx (l := [99]) (by decide +kernel)) (nomark _)))) (fun _ _ _ _ _ => (pv 7)))
      (pss_cons (ps_set (i := 4) sc__law_good.nd rfl (by first | exact Or.inl rfl | exact Or.inr rfl) (pe_cmpR op_eq (pe_callB (clnL K) rfl T.b_len (by decide +kernel) (pa_cons (pv 3) pa_nil)) pe_int (nomark _)))
      (pss_cons (ps_if (pt_cmpR op_eq (pv 0) (pe_tx (l := [109, 105, 114, 114, 111, 114, 101, 100]) (by decide +kernel)) (nomark _)) (pss_one (ps_ret (pe_D D__law_mirror (by decide) hr (pa_cons (pv 1) pa_nil)))) pss_nil)
      (pss_cons (ps_if (pt_cmpR op_eq (pv 0) (pe_tx (l := [102, 111, 117, 110, 100]) (by decide +kernel)) (nomark _)) (pss_one (ps_ret (pe_and (pv 4) (pe_one (pe_D D__law_stands (by decide) hr (pa_cons (pe_slice sl_str (pv 1) po_none (po_some (pe_ix (ixL K) (pv 3) pe_int (fun _ _ => rfl)))) (pa_cons (pe_slice sl_str (pv 1) (po_some (pe_op op_add (pe_ix (ixL K) (pv 3) pe_int (fun _ _ => rfl)) pe_int)) po_none) pa_nil))))))) pss_nil)
      (pss_cons (ps_if (pt_cmpR op_eq (pv 0) (pe_tx (l := [98, 111, 114, 100, 101, 114, 101, 100]) (by decide +kernel)) (nomark _)) (pss_one (ps_ret (pe_callB (anyK K) rfl T.b_any (by decide +kernel) (pa_cons (pe_lc (own := [("k", 7)]) (g := gName 7) (tt := tYes) rfl sc__law_good.nd (pi_range2 rfl T.b_range (pa_cons pe_int (pa_cons (pv 2) pa_nil))) (blkOk_by (N := ["name", "text", "n", "spots", "lone", "heights", "many", "k"]) (sc := defScope (top 61)) (by decide +kernel)) (fun _ _ _ _ _ => (pg_name (i := 7) sc__law_good.nd rfl (by first | exact Or.inl rfl | exact Or.inr rfl))) (fun _ _ _ _ _ => pts_nil) (fun _ _ _ _ _ => (pe_cmpR op_eq (pe_slice sl_str (pv 1) po_none (po_some (pv 7))) (pe_slice sl_str (pv 1) (po_some (pe_op op_sub (pv 2) (pv 7))) po_none) (nomark _)))) pa_nil)))) pss_nil)
      (pss_cons (ps_if (pt_cmpR op_eq (pv 0) (pe_tx (l := [109, 105, 114, 114, 111, 114, 115, 116, 97, 114, 116]) (by decide +kernel)) (nomark _)) (pss_one (ps_ret (pe_callB (anyK K) rfl T.b_any (by decide +kernel) (pa_cons (pe_lc (own := [("k", 7)]) (g := gName 7) (tt := tYes) rfl sc__law_good.nd (pi_range2 rfl T.b_range (pa_cons pe_int (pa_cons (pe_op op_add (pv 2) pe_int) pa_nil))) (blkOk_by (N := ["name", "text", "n", "spots", "lone", "heights", "many", "k"]) (sc := defScope (top 61)) (by decide +kernel)) (fun _ _ _ _ _ => (pg_name (i := 7) sc__law_good.nd rfl (by first | exact Or.inl rfl | exact Or.inr rfl))) (fun _ _ _ _ _ => pts_nil) (fun _ _ _ _ _ => (pe_D D__law_mirror (by decide) hr (pa_cons (pe_slice sl_str (pv 1) po_none (po_some (pv 7))) pa_nil)))) pa_nil)))) pss_nil)
      (pss_cons (ps_if (pt_cmpR op_eq (pv 0) (pe_tx (l := [98, 97, 108, 97, 110, 99, 101, 100]) (by decide +kernel)) (nomark _)) (pss_cons (ps_setLc (i := 5) (own := [("k", 7)]) (g := gName 7) (tt := tYes) rfl sc__law_good.nd rfl rfl (sw_true rfl rfl rfl (by decide +kernel)) (pi_range1 rfl T.b_range (pa_cons (pe_op op_add (pv 2) pe_int) pa_nil)) (blkOk_by (N := ["name", "text", "n", "spots", "lone", "heights", "many", "k"]) (sc := defScope (top 61)) (by decide +kernel)) (fun _ _ _ _ _ => (pg_name (i := 7) sc__law_good.nd rfl (by first | exact Or.inl rfl | exact Or.inr rfl))) (fun _ _ _ _ _ => pts_nil) (fun _ _ _ _ _ => (pe_op op_sub (pe_m1 PySem.F.slot_str_count PySem.F.type_str_count m_cnt (pe_slice sl_str (pv 1) po_none (po_some (pv 7))) (pe_tx (l := [97]) (by decide +kernel))) (pe_m1 PySem.F.slot_str_count PySem.F.type_str_count m_cnt (pe_slice sl_str (pv 1) po_none (po_some (pv 7))) (pe_tx (l := [98]) (by decide +kernel))))))
      (pss_one (ps_ret (pe_and (pe_cmpR op_eq (pe_callB (minK K) rfl T.b_min (by decide +kernel) (pa_cons (pv 5) pa_nil)) pe_int (nomark _)) (pe_one (pe_cmpR op_eq (pe_ix (ixL K) (pv 5) (pv 2) (fun _ _ => rfl)) pe_int (nomark _))))))) pss_nil)
      (pss_cons (ps_if (pt_cmpR op_eq (pv 0) (pe_tx (l := [101, 118, 101, 110, 108, 121]) (by decide +kernel)) (nomark _)) (pss_one (ps_ret (pe_cmpR op_eq (pe_m1 PySem.F.slot_str_count PySem.F.type_str_count m_cnt (pv 1) (pe_tx (l := [97]) (by decide +kernel))) (pe_m1 PySem.F.slot_str_count PySem.F.type_str_count m_cnt (pv 1) (pe_tx (l := [98]) (by decide +kernel))) (nomark _)))) pss_nil)
      (pss_cons (ps_if (pt_cmpR op_eq (pv 0) (pe_tx (l := [99, 111, 112, 105, 101, 100]) (by decide +kernel)) (nomark _)) (pss_one (ps_ret (pe_and (pv 4) (pe_one (pe_cmpR op_eq (pe_slice sl_str (pv 1) po_none (po_some (pe_ix (ixL K) (pv 3) pe_int (fun _ _ => rfl)))) (pe_slice sl_str (pv 1) (po_some (pe_op op_add (pe_ix (ixL K) (pv 3) pe_int (fun _ _ => rfl)) pe_int)) po_none) (nomark _)))))) pss_nil)
      (pss_cons (ps_if (pt_cmpR op_eq (pv 0) (pe_tx (l := [116, 104, 105, 114, 100, 115]) (by decide +kernel)) (nomark _)) (pss_cons (ps_set (i := 6) sc__law_good.nd rfl (by first | exact Or.inl rfl | exact Or.inr rfl) (pe_m1 PySem.F.slot_str_count PySem.F.type_str_count m_cnt (pv 1) (pe_tx (l := [97]) (by decide +kernel))))
      (pss_one (ps_ret (pe_cmpR op_eq (pv 1) (pe_op op_adS (pe_op op_adS (pe_op op_muS (pe_tx (l := [97]) (by decide +kernel)) (pv 6)) (pe_op op_muS (pe_tx (l := [98]) (by decide +kernel)) (pv 6))) (pe_op op_muS (pe_tx (l := [99]) (by decide +kernel)) (pv 6))) (nomark _))))) pss_nil)
      (pss_cons (ps_if (pt_cmpR op_eq (pv 0) (pe_tx (l := [112, 111, 119, 101, 114]) (by decide +kernel)) (nomark _)) (pss_one (ps_ret (pe_cmpR (inSeq K) (pv 2) (pe_lst (pa_cons pe_int (pa_cons pe_int (pa_cons pe_int (pa_cons pe_int (pa_cons pe_int (pa_cons pe_int (pa_cons pe_int (pa_cons pe_int (pa_cons pe_int pa_nil)))))))))) (by rfl)))) pss_nil)
      (pss_cons (ps_if (pt_cmpR op_eq (pv 0) (pe_tx (l := [116, 119, 111, 109, 105, 114, 114, 111, 114, 115]) (by decide +kernel)) (nomark _)) (pss_one (ps_ret (pe_callB (anyK K) rfl T.b_any (by decide +kernel) (pa_cons (pe_lc (own := [("k", 7)]) (g := gName 7) (tt := tYes) rfl sc__law_good.nd (pi_range2 rfl T.b_range (pa_cons pe_int (pa_cons (pv 2) pa_nil))) (blkOk_by (N := ["name", "text", "n", "spots", "lone", "heights", "many", "k"]) (sc := defScope (top 61)) (by decide +kernel)) (fun _ _ _ _ _ => (pg_name (i := 7) sc__law_good.nd rfl (by first | exact Or.inl rfl | exact Or.inr rfl))) (fun _ _ _ _ _ => pts_nil) (fun _ _ _ _ _ => (pe_and (pe_D D__law_mirror (by decide) hr (pa_cons (pe_slice sl_str (pv 1) po_none (po_some (pv 7))) pa_nil)) (pe_one (pe_D D__law_mirror (by decide) hr (pa_cons (pe_slice sl_str (pv 1) (po_some (pv 7)) po_none) pa_nil)))))) pa_nil)))) pss_nil)
      (pss_cons (ps_if (pt_cmpR op_eq (pv 0) (pe_tx (l := [101, 118, 101, 110, 109, 105, 114, 114, 111, 114, 115]) (by decide +kernel)) (nomark _)) (pss_one (ps_ret (pe_D D__law_evens (by decide) hr (pa_cons (pv 1) pa_nil)))) pss_nil)
      (pss_one (ps_ret pe_bl)))))))))))))))), ?_⟩
    have dr : ∀ n, (a.drop n).length ≤ 1000 := fun n => by rw [List.length_drop]; omega
    have tk : ∀ n, (a.take n).length ≤ 1000 := fun n => by rw [List.length_take]; omega
    refine q_asg (v := .int (a.length : Int)) (ev_lnS (ev_var rfl) (by omega) rfl) fun H1 e1 => ?_
    refine q_asgL (xs := (spoB a).map fun k : Nat => V.int (k : Int)) ?_ fun p H2 hp e2 hs => ?_
    · have hx : (spoB a).map (fun k : Nat => V.int (k : Int)) = Evl.given (a.length : Int).toNat (fun k => decide ([a.getD k 0] = [99])) (fun k : Nat => V.int (k : Int)) := by
        rw [Int.toNat_natCast]
        rfl
      rw [hx]
      refine el_r1 _ _ (ev_var rfl) (by omega) (fun s H3 e3 hs => et_test (ev_eqS (ev_ixS (k := s) (c := a.getD s 0) (ev_var rfl) (ev_var rfl) (by omega) (by
        have h3 : s < a.length := by omega
        rw [List.getElem?_eq_getElem h3]
        simp [List.getD, List.getElem?_eq_getElem h3])) ev_tx)) fun s H3 e3 hs _ => ev_var rfl
    refine q_asg (v := .bl (lonB a)) (ev_eqI (ev_lnL (n := ((spoB a).length : Int)) (ev_var rfl) (sq_of hs) (by rw [List.length_map])) ev_c) fun H3 e3 => ?_
    have ix0 : ∀ H4, Ex H3 H4 → lonB a = true → Ev (tOp (rIxL K) (tVar 3) (tC (.int 0))) ([some (tx nm), some (tx a), some (.int (a.length : Int)), some (.ref p), some (.bl (lonB a)), none, none, none] : L2.St) H4 (.int (spo0 a : Int)) := fun H4 e4 hl => by
      have hl1 : (spoB a).length = 1 := by
        have := of_decide_eq_true hl
        omega
      have e5 := spo_one hl1
      exact ev_ixL (k := 0) (ev_var rfl) ev_c (sq_of (e4 _ _ (e3 _ _ hs))) (by rw [e5]; rfl)
    replace k : RetV (.bl (goodB nm a)) H3 Q := fun H4 e4 => k H4 ((e1.trans e2).trans (e3.trans e4))
    unfold goodB at k
    clear e1 e2 e3 hs
    revert ix0 k
    generalize H3 = Hc
    intro ix0 k
    refine q_when (et_test (ev_eqS (b := [109, 105, 114, 114, 111, 114, 101, 100]) (ev_var rfl) ev_tx)) (fun hb H4 e4 => ?_) (fun hb H4 e4 => ?_)
    · rw [if_pos (of_decide_eq_true hb)] at k
      replace k := fun H5 (e5 : Ex H4 H5) => k H5 (e4.trans e5)
      replace ix0 := fun H5 (e5 : Ex H4 H5) hl => ix0 H5 (e4.trans e5) hl
      exact s_ret (ev_call (ea_cons (ev_var rfl) ea_nil) (spT_v h2)) k
    rw [if_neg (of_decide_eq_false hb)] at k
    replace ix0 := fun H5 (e5 : Ex H4 H5) hl => ix0 H5 (e4.trans e5) hl
    replace k := fun H5 (e5 : Ex H4 H5) => k H5 (e4.trans e5)
    clear hb e4
    revert ix0 k
    generalize H4 = Hc2
    clear Hc
    revert Hc2
    intro Hc ix0 k
    refine q_when (et_test (ev_eqS (b := [102, 111, 117, 110, 100]) (ev_var rfl) ev_tx)) (fun hb H4 e4 => ?_) (fun hb H4 e4 => ?_)
    · rw [if_pos (of_decide_eq_true hb)] at k
      replace k := fun H5 (e5 : Ex H4 H5) => k H5 (e4.trans e5)
      replace ix0 := fun H5 (e5 : Ex H4 H5) hl => ix0 H5 (e4.trans e5) hl
      exact s_ret (ev_andV (ev_var rfl) fun hl => ev_call (ea_cons (ev_to (ev_var rfl) (eo_some (ix0 _ (Ex.refl _) hl)) (by omega)) (ea_cons (ev_from (k := spo0 a + 1) (ev_var rfl) (eo_some (ev_is (ev_add (ix0 _ (Ex.refl _) hl) ev_c) (by rw [Int.natCast_add]; rfl))) (by omega)) ea_nil)) (spT2_v (tk _) (dr _))) k
    rw [if_neg (of_decide_eq_false hb)] at k
    replace ix0 := fun H5 (e5 : Ex H4 H5) hl => ix0 H5 (e4.trans e5) hl
    replace k := fun H5 (e5 : Ex H4 H5) => k H5 (e4.trans e5)
    clear hb e4
    revert ix0 k
    generalize H4 = Hc2
    clear Hc
    revert Hc2
    intro Hc ix0 k
    refine q_when (et_test (ev_eqS (b := [98, 111, 114, 100, 101, 114, 101, 100]) (ev_var rfl) ev_tx)) (fun hb H4 e4 => ?_) (fun hb H4 e4 => ?_)
    · rw [if_pos (of_decide_eq_true hb)] at k
      replace k := fun H5 (e5 : Ex H4 H5) => k H5 (e4.trans e5)
      replace ix0 := fun H5 (e5 : Ex H4 H5) hl => ix0 H5 (e4.trans e5) hl
      refine s_ret (ev_anyM (xs := List.range (a.length - 1)) (g := fun i => decide (a.take (1 + i) = a.drop (a.length - (1 + i)))) ?_ rfl) k
      have e : ((a.length : Int) - 1).toNat = a.length - 1 := by omega
      rw [← e]
      refine el_r2a _ ev_c (ev_var rfl) (by omega) fun i H1 e1 hi => ?_
      exact ev_eqS (ev_to (k := 1 + i) (ev_var rfl) (eo_some (ev_is (ev_var rfl) (by rw [Int.natCast_add]; rfl))) (by omega)) (ev_from (k := a.length - (1 + i)) (ev_var rfl) (eo_some (ev_is (ev_sub (ev_var rfl) (ev_var rfl)) (by congr 1; omega))) (by omega))
    rw [if_neg (of_decide_eq_false hb)] at k
    replace ix0 := fun H5 (e5 : Ex H4 H5) hl => ix0 H5 (e4.trans e5) hl
    replace k := fun H5 (e5 : Ex H4 H5) => k H5 (e4.trans e5)
    clear hb e4
    revert ix0 k
    generalize H4 = Hc2
    clear Hc
    revert Hc2
    intro Hc ix0 k
    refine q_when (et_test (ev_eqS (b := [109, 105, 114, 114, 111, 114, 115, 116, 97, 114, 116]) (ev_var rfl) ev_tx)) (fun hb H4 e4 => ?_) (fun hb H4 e4 => ?_)
    · rw [if_pos (of_decide_eq_true hb)] at k
      replace k := fun H5 (e5 : Ex H4 H5) => k H5 (e4.trans e5)
      replace ix0 := fun H5 (e5 : Ex H4 H5) hl => ix0 H5 (e4.trans e5) hl
      refine s_ret (ev_anyM (xs := List.range (a.length + 1 - 2)) (g := fun i => mirB (a.take (2 + i))) ?_ rfl) k
      have e : ((a.length : Int) + 1 - 2).toNat = a.length + 1 - 2 := by omega
      rw [← e]
      refine el_r2a _ ev_c (ev_add (ev_var rfl) ev_c) (by omega) fun i H1 e1 hi => ?_
      exact ev_call (ea_cons (ev_to (k := 2 + i) (ev_var rfl) (eo_some (ev_is (ev_var rfl) (by rw [Int.natCast_add]; rfl))) (by omega)) ea_nil) (spT_v (tk _))
    rw [if_neg (of_decide_eq_false hb)] at k
    replace ix0 := fun H5 (e5 : Ex H4 H5) hl => ix0 H5 (e4.trans e5) hl
    replace k := fun H5 (e5 : Ex H4 H5) => k H5 (e4.trans e5)
    clear hb e4
    revert ix0 k
    generalize H4 = Hc2
    clear Hc
    revert Hc2
    intro Hc ix0 k
    refine q_when (et_test (ev_eqS (b := [98, 97, 108, 97, 110, 99, 101, 100]) (ev_var rfl) ev_tx)) (fun hb H4 e4 => ?_) (fun hb H4 e4 => ?_)
    · rw [if_pos (of_decide_eq_true hb)] at k
      replace k := fun H5 (e5 : Ex H4 H5) => k H5 (e4.trans e5)
      replace ix0 := fun H5 (e5 : Ex H4 H5) hl => ix0 H5 (e4.trans e5) hl
      have hm : (List.range ((a.length : Int) + 1).toNat).map (fun k => V.int ((((a.take k).count 97 : Nat) : Int) - (((a.take k).count 98 : Nat) : Int))) = (heiB a).map V.int := by
        unfold heiB
        rw [List.map_map]
        have : ((a.length : Int) + 1).toNat = a.length + 1 := by omega
        rw [this]
        rfl
      refine q_asgL (xs := (heiB a).map V.int) ?_ fun q H5 hq e5 h5 => ?_
      · rw [← hm]
        refine el_r1a _ (ev_add (ev_var rfl) ev_c) (by omega) fun i H1 e1 hi => ?_
        exact ev_sub (ev_cnt (ev_to (k := i) (ev_var rfl) (eo_some (ev_var rfl)) (by omega)) ev_tx (cnt_S _ _)) (ev_cnt (ev_to (k := i) (ev_var rfl) (eo_some (ev_var rfl)) (by omega)) ev_tx (cnt_S _ _))
      have hl : (heiB a).length = a.length + 1 := by
        unfold heiB
        rw [List.length_map]
        exact List.length_range
      refine s_ret (ev_andV (ev_eqI (ev_minL (ev_var rfl) (sq_of h5) (by omega)) ev_c) fun _ => ev_eqI (ev_ixL (k := a.length) (ev_var rfl) (ev_var rfl) (sq_of h5) ?_) ev_c) fun H6 e6 => k H6 (e5.trans e6)
      rw [List.getElem?_map, heiB, List.getElem?_map, List.getElem?_range (Nat.lt_succ_self _)]
      show some (V.int ((((a.take a.length).count 97 : Nat) : Int) - (((a.take a.length).count 98 : Nat) : Int))) = _
      rw [List.take_length]
    rw [if_neg (of_decide_eq_false hb)] at k
    replace ix0 := fun H5 (e5 : Ex H4 H5) hl => ix0 H5 (e4.trans e5) hl
    replace k := fun H5 (e5 : Ex H4 H5) => k H5 (e4.trans e5)
    clear hb e4
    revert ix0 k
    generalize H4 = Hc2
    clear Hc
    revert Hc2
    intro Hc ix0 k
    refine q_when (et_test (ev_eqS (b := [101, 118, 101, 110, 108, 121]) (ev_var rfl) ev_tx)) (fun hb H4 e4 => ?_) (fun hb H4 e4 => ?_)
    · rw [if_pos (of_decide_eq_true hb)] at k
      replace k := fun H5 (e5 : Ex H4 H5) => k H5 (e4.trans e5)
      replace ix0 := fun H5 (e5 : Ex H4 H5) hl => ix0 H5 (e4.trans e5) hl
      exact s_ret (ev_eqI (ev_cnt (ev_var rfl) ev_tx (cnt_S _ _)) (ev_cnt (ev_var rfl) ev_tx (cnt_S _ _))) k
    rw [if_neg (of_decide_eq_false hb)] at k
    replace ix0 := fun H5 (e5 : Ex H4 H5) hl => ix0 H5 (e4.trans e5) hl
    replace k := fun H5 (e5 : Ex H4 H5) => k H5 (e4.trans e5)
    clear hb e4
    revert ix0 k
    generalize H4 = Hc2
    clear Hc
    revert Hc2
    intro Hc ix0 k
    refine q_when (et_test (ev_eqS (b := [99, 111, 112, 105, 101, 100]) (ev_var rfl) ev_tx)) (fun hb H4 e4 => ?_) (fun hb H4 e4 => ?_)
    · rw [if_pos (of_decide_eq_true hb)] at k
      replace k := fun H5 (e5 : Ex H4 H5) => k H5 (e4.trans e5)
      replace ix0 := fun H5 (e5 : Ex H4 H5) hl => ix0 H5 (e4.trans e5) hl
      exact s_ret (ev_andV (ev_var rfl) fun hl => ev_eqS (ev_to (ev_var rfl) (eo_some (ix0 _ (Ex.refl _) hl)) (by omega)) (ev_from (k := spo0 a + 1) (ev_var rfl) (eo_some (ev_is (ev_add (ix0 _ (Ex.refl _) hl) ev_c) (by rw [Int.natCast_add]; rfl))) (by omega))) k
    rw [if_neg (of_decide_eq_false hb)] at k
    replace ix0 := fun H5 (e5 : Ex H4 H5) hl => ix0 H5 (e4.trans e5) hl
    replace k := fun H5 (e5 : Ex H4 H5) => k H5 (e4.trans e5)
    clear hb e4
    revert ix0 k
    generalize H4 = Hc2
    clear Hc
    revert Hc2
    intro Hc ix0 k
    refine q_when (et_test (ev_eqS (b := [116, 104, 105, 114, 100, 115]) (ev_var rfl) ev_tx)) (fun hb H4 e4 => ?_) (fun hb H4 e4 => ?_)
    · rw [if_pos (of_decide_eq_true hb)] at k
      replace k := fun H5 (e5 : Ex H4 H5) => k H5 (e4.trans e5)
      replace ix0 := fun H5 (e5 : Ex H4 H5) hl => ix0 H5 (e4.trans e5) hl
      have hc : a.count 97 ≤ a.length := List.count_le_length
      refine q_asg (v := .int ((a.count 97 : Nat) : Int)) (ev_cnt (ev_var rfl) ev_tx (cnt_S _ _)) fun H5 e5 => ?_
      have m : ∀ c : Nat, Ev (tOp rMuS (tC (tx [c])) (tVar 6)) ([some (tx nm), some (tx a), some (.int (a.length : Int)), some (.ref p), some (.bl (lonB a)), none, some (.int ((a.count 97 : Nat) : Int)), none] : L2.St) H5 (tx (List.replicate (a.count 97) c)) := fun c => by
        have h := ev_muS (σ := ([some (tx nm), some (tx a), some (.int (a.length : Int)), some (.ref p), some (.bl (lonB a)), none, some (.int ((a.count 97 : Nat) : Int)), none] : L2.St)) (H := H5) (ta := tC (tx [c])) (tb := tVar 6) (a := [c]) (i := ((a.count 97 : Nat) : Int)) 1 1000 ev_tx (ev_var rfl) (by simp) (by omega) (by omega) (by decide) (by decide)
        rw [repS] at h
        exact h
      exact s_ret (ev_eqS (ev_var rfl) (ev_adS (ev_adS (m 97) (m 98) (by simp; omega)) (m 99) (by simp; omega))) fun H6 e6 => k H6 (e5.trans e6)
    rw [if_neg (of_decide_eq_false hb)] at k
    replace ix0 := fun H5 (e5 : Ex H4 H5) hl => ix0 H5 (e4.trans e5) hl
    replace k := fun H5 (e5 : Ex H4 H5) => k H5 (e4.trans e5)
    clear hb e4
    revert ix0 k
    generalize H4 = Hc2
    clear Hc
    revert Hc2
    intro Hc ix0 k
    refine q_when (et_test (ev_eqS (b := [112, 111, 119, 101, 114]) (ev_var rfl) ev_tx)) (fun hb H4 e4 => ?_) (fun hb H4 e4 => ?_)
    · rw [if_pos (of_decide_eq_true hb)] at k
      replace k := fun H5 (e5 : Ex H4 H5) => k H5 (e4.trans e5)
      replace ix0 := fun H5 (e5 : Ex H4 H5) hl => ix0 H5 (e4.trans e5) hl
      exact s_ret (ev_inI (ys := [1, 2, 4, 8, 16, 32, 64, 128, 256]) (ev_var rfl) (el_lst (ea_cons ev_c (ea_cons ev_c (ea_cons ev_c (ea_cons ev_c (ea_cons ev_c (ea_cons ev_c (ea_cons ev_c (ea_cons ev_c (ea_cons ev_c ea_nil))))))))) (by decide))) k
    rw [if_neg (of_decide_eq_false hb)] at k
    replace ix0 := fun H5 (e5 : Ex H4 H5) hl => ix0 H5 (e4.trans e5) hl
    replace k := fun H5 (e5 : Ex H4 H5) => k H5 (e4.trans e5)
    clear hb e4
    revert ix0 k
    generalize H4 = Hc2
    clear Hc
    revert Hc2
    intro Hc ix0 k
    refine q_when (et_test (ev_eqS (b := [116, 119, 111, 109, 105, 114, 114, 111, 114, 115]) (ev_var rfl) ev_tx)) (fun hb H4 e4 => ?_) (fun hb H4 e4 => ?_)
    · rw [if_pos (of_decide_eq_true hb)] at k
      replace k := fun H5 (e5 : Ex H4 H5) => k H5 (e4.trans e5)
      replace ix0 := fun H5 (e5 : Ex H4 H5) hl => ix0 H5 (e4.trans e5) hl
      refine s_ret (ev_anyM (xs := List.range (a.length - 1)) (g := fun i => mirB (a.take (1 + i)) && mirB (a.drop (1 + i))) ?_ rfl) k
      have e : ((a.length : Int) - 1).toNat = a.length - 1 := by omega
      rw [← e]
      refine el_r2a _ ev_c (ev_var rfl) (by omega) fun i H1 e1 hi => ?_
      exact ev_andV (ev_call (ea_cons (ev_to (k := 1 + i) (ev_var rfl) (eo_some (ev_is (ev_var rfl) (by rw [Int.natCast_add]; rfl))) (by omega)) ea_nil) (spT_v (tk _)))
        fun _ => ev_call (ea_cons (ev_from (k := 1 + i) (ev_var rfl) (eo_some (ev_is (ev_var rfl) (by rw [Int.natCast_add]; rfl))) (by omega)) ea_nil) (spT_v (dr _))
    rw [if_neg (of_decide_eq_false hb)] at k
    replace ix0 := fun H5 (e5 : Ex H4 H5) hl => ix0 H5 (e4.trans e5) hl
    replace k := fun H5 (e5 : Ex H4 H5) => k H5 (e4.trans e5)
    clear hb e4
    revert ix0 k
    generalize H4 = Hc2
    clear Hc
    revert Hc2
    intro Hc ix0 k
    refine q_when (et_test (ev_eqS (b := [101, 118, 101, 110, 109, 105, 114, 114, 111, 114, 115]) (ev_var rfl) ev_tx)) (fun hb H4 e4 => ?_) (fun hb H4 e4 => ?_)
    · rw [if_pos (of_decide_eq_true hb)] at k
      replace k := fun H5 (e5 : Ex H4 H5) => k H5 (e4.trans e5)
      replace ix0 := fun H5 (e5 : Ex H4 H5) hl => ix0 H5 (e4.trans e5) hl
      exact s_ret (ev_call (ea_cons (ev_var rfl) ea_nil) (spT_v h2)) k
    rw [if_neg (of_decide_eq_false hb)] at k
    replace ix0 := fun H5 (e5 : Ex H4 H5) hl => ix0 H5 (e4.trans e5) hl
    replace k := fun H5 (e5 : Ex H4 H5) => k H5 (e4.trans e5)
    clear hb e4
    revert ix0 k
    generalize H4 = Hc2
    clear Hc
    revert Hc2
    intro Hc ix0 k
    exact s_ret ev_c k
theorem sc__law_due : FnScope ["name", "text"] ["name", "text"] (defScope (top 62)) := ⟨rfl, rfl, rfl, by decide +kernel, rfl, by decide +kernel, by decide +kernel⟩
theorem ok__law_due {P : Program} {w : World} {K : PySem.W.Frag} {mg : Str → Option Value} {base : Heap} (T : Tp w K mg) : DefOk P w K mg base CX0 "_law_due" 5 ["name", "text"] (spDue) := by
  have D__law_good := ok__law_good (P := P) (base := base) T
  refine mkDef0 (f := He.fAd K ("_law_due", none)) (T.df 30 _ rfl) (T.gg 30 _ rfl) sc__law_due (fun vs H Q E h => ?_) (fun _ _ _ _ _ _ us hl => match us, hl with | [_, _], _ => rfl) (fun cdv A outer s H vs Q E hr h => ?_)
  · obtain ⟨nm, a, rfl, _⟩ := h
    rfl
  · obtain ⟨nm, a, rfl, h1, h2, k⟩ := h
    refine ⟨_, (pss_cons (ps_if (pt_cmpR (inSeq K) (pv 0) (pe_lst (pa_cons (pe_tx (l := [99, 104, 97, 110, 116]) (by decide +kernel)) (pa_cons (pe_tx (l := [114, 111, 117, 110, 100, 115]) (by decide +kernel)) pa_nil))) (by rfl)) (pss_one (ps_ret (pe_tx (l := [101, 110, 100, 108, 101, 115, 115]) (by decide +kernel)))) pss_nil)
      (pss_one (ps_ret (pe_ix (ixL K) (pe_lst (pa_cons (pe_tx (l := [110, 111]) (by decide +kernel)) (pa_cons (pe_tx (l := [121, 101, 115]) (by decide +kernel)) pa_nil))) (pe_callTy cl_int rfl T.b_int (by decide +kernel) (pa_cons (pe_D D__law_good (by decide) hr (pa_cons (pv 0) (pa_cons (pv 1) pa_nil))) pa_nil)) (fun _ _ => rfl))))), ?_⟩
    unfold dueB at k
    refine q_when (et_test (ev_inTx (ys := [[99, 104, 97, 110, 116], [114, 111, 117, 110, 100, 115]]) (ev_var rfl) (el_lst (ea_cons ev_tx (ea_cons ev_tx ea_nil)) (by decide)))) (fun hb H1 e1 => ?_) (fun hb H1 e1 => ?_)
    · rw [if_pos (of_decide_eq_true hb)] at k
      exact s_ret ev_tx fun H2 e2 => k H2 (e1.trans e2)
    rw [if_neg (of_decide_eq_false hb)] at k
    refine s_ret (ev_ixN (xs := [tx [110, 111], tx [121, 101, 115]]) (v := tx (if goodB nm a = true then [121, 101, 115] else [110, 111])) (k := if goodB nm a then 1 else 0) (el_lst (ea_cons ev_tx (ea_cons ev_tx ea_nil)) (by decide)) (fun H2 e2 => ev_is (ev_intB (k := goodB nm a) (ev_call (ea_cons (ev_var rfl) (ea_cons (ev_var rfl) ea_nil)) (spT2_v h1 h2))) (by cases goodB nm a <;> rfl)) (by cases goodB nm a <;> rfl)) fun H2 e2 => k H2 (e1.trans e2)
end K84
set_option Elab.async false
set_option linter.all false
set_option maxRecDepth 100000
set_option maxHeartbeats 4000000
/-! K84F: the law's fitted texts. -/
namespace K84
open PySem PySem.Spec PyProof.Rows L2 Kb
open SX (S)
open Evl (Ev EvL EvT EvA Ex RetV RetL SpL ev_var ev_c s_ret s_retL s_asg s_asgL q_asg q_asgL q_when s_when s_if q_if et_or et_not et_and et_B et_test ev_andV ev_notV sq_of eo_some eo_none SpV ev_call ea_cons ea_nil q_ifAsg s_ifAsg q_while s_app q_app el_lst ev_is ex_l)
def spFit : Sp := fun vs H Q _ => ∃ (nm a : List Nat) (cut room : Int), vs = [tx nm, tx a, .int cut, .int room] ∧ a.length ≤ 400 ∧ (40 ≤ room ∧ room ≤ 400) ∧ (∀ c ∈ a, c = 97 ∨ c = 98 ∨ c = 99) ∧ ∀ b : List Nat, Sm 4000 b → RetV (tx b) H Q
theorem evB_fold {σ : L2.St} {H : Hp} {ta : TE} {n : Nat} (h : EvB ta σ H n) (hn : n ≤ 1000) : EvB (tCall (spF foldL) [] E0 (tCons ta tNil)) σ H n := by
  obtain ⟨b, hb, h⟩ := h
  refine ⟨foldL b, hb.sub (fun c hc => ?_) ?_, ev_call (ea_cons h ea_nil) (spF_v (Nat.le_trans hb.1 hn))⟩
  · unfold foldL at hc
    rcases List.mem_append.mp hc with front | back
    · exact List.mem_of_mem_take front
    · exact List.mem_of_mem_take (List.mem_reverse.mp back)
  · unfold foldL
    have := hb.1
    rw [List.length_append, List.length_take, List.length_reverse, List.length_take]
    omega
theorem evB_back {σ : L2.St} {H : Hp} {ta : TE} {n : Nat} (h : EvB ta σ H n) (hn : n ≤ 1000) : EvB (tCall (spF List.reverse) [] E0 (tCons ta tNil)) σ H n := by
  obtain ⟨b, hb, h⟩ := h
  exact ⟨b.reverse, hb.sub (fun c hc => List.mem_reverse.mp hc) (by rw [List.length_reverse]; exact hb.1), ev_call (ea_cons h ea_nil) (spF_v (Nat.le_trans hb.1 hn))⟩
theorem evB_rep {σ : L2.St} {H : Hp} {tb : TE} {c : Nat} {i : Int} (hb : Ev tb σ H (.int i)) (h0 : 0 ≤ i ∧ i ≤ 1000) (hc : c < 128) : EvB (tOp rMuS (tC (tx [c])) tb) σ H 1000 := by
  refine ⟨_, ⟨?_, fun d hd => ?_⟩, ev_muS (a := [c]) (i := i) 1 1000 ev_tx hb (by simp) (by omega) (by omega) (by decide) (by decide)⟩
  · rw [rep1, List.length_replicate]
    omega
  · rw [rep1] at hd
    rw [(List.mem_replicate.mp hd).2]
    exact hc
theorem s_retBr {σ : L2.St} {H : Hp} {ta : TE} {n : Nat} {D : Ends} (h : EvB ta σ H n) (hn : n ≤ 1000) (k : ∀ b : List Nat, Sm (2 * n) b → ∀ H1, Ex H H1 → D.rt (tx b) H1) : tRet (tCall spBr [] E0 (tCons ta tNil)) D σ H := by
  obtain ⟨a, ha, h⟩ := h
  show tCons ta tNil σ H fun vs H1 => spBr (vs ++ []) H1 D.rt E0
  exact (ea_cons h ea_nil) H (Ex.refl H) (fun vs H1 => spBr (vs ++ []) H1 D.rt E0) fun H1 e1 => ⟨a, rfl, Nat.le_trans ha.1 hn, fun b hb H2 e2 => k b (hb.up (Nat.mul_le_mul_left 2 ha.1)) H2 (e1.trans e2)⟩
def sw3 (c : Nat) : Nat := if c = 97 then 98 else if c = 98 then 97 else 99
theorem filt_given (l : List Int) (f : Int → Bool) : (l.filter f).map V.int = Evl.given (l.map V.int).length (fun i => f (l.getD i 0)) (fun i => V.int (l.getD i 0)) := by
  unfold Evl.given
  rw [List.length_map]
  have h : l = (List.range l.length).map fun i => l.getD i 0 := by
    apply List.ext_getElem
    · simp
    · intro i h1 h2
      simp [List.getD, List.getElem?_eq_getElem h1]
  conv => lhs; rw [h]
  rw [List.filter_map, List.map_map]
  rfl
theorem sc__law_fitted : FnScope ["name", "raw", "cut", "room", "n", "at", "flat", "few", "part", "word", "other", "turned", "one", "two", "letter", "size"] ["name", "raw", "cut", "room"] (defScope (top 57)) := ⟨rfl, rfl, rfl, by decide +kernel, rfl, by decide +kernel, by decide +kernel⟩
theorem ok__law_fitted {P : Program} {w : World} {K : PySem.W.Frag} {mg : Str → Option Value} {base : Heap} (T : Tp w K mg) : DefOk P w K mg base CX0 "_law_fitted" 3 ["name", "raw", "cut", "room"] (spFit) := by
  have D__law_fold := ok__law_fold (P := P) (base := base) T
  have D__law_back := ok__law_back (P := P) (base := base) T
  have D__law_brackets := ok__law_brackets (P := P) (base := base) T
  refine mkDef0 (f := He.fAd K ("_law_fitted", none)) (T.df 25 _ rfl) (T.gg 25 _ rfl) sc__law_fitted (fun vs H Q E h => ?_) (fun _ _ _ _ _ _ us hl => match us, hl with | [_, _, _, _], _ => rfl) (fun cdv A outer s H vs Q E hr h => ?_)
  · obtain ⟨nm, a, cut, room, rfl, _⟩ := h
    rfl
  · obtain ⟨nm, a, cut, room, rfl, hz, hr2, habc, k⟩ := h
    refine ⟨_, (pss_lenS (i := 4) sc__law_fitted.nd rfl (by first | exact Or.inl rfl | exact Or.inr rfl) rfl T.b_len (by decide +kernel) (pa_cons (pv 1) pa_nil) (psst_cons (PST.of (ps_set (i := 5) sc__law_fitted.nd rfl (by first | exact Or.inl rfl | exact Or.inr rfl) (pe_op op_mod (pe_callTy cl_int rfl T.b_int (by decide +kernel) (pa_cons (pv 2) pa_nil)) (pe_op op_add (pv 4) pe_int)))) (psst_cons (pst_setT (i := 6) sc__law_fitted.nd rfl (by first | exact Or.inl rfl | exact Or.inr rfl) (CwR.pet_replC (pv 1))) (PSsT.of
     (pss_cons (ps_set (i := 7) sc__law_fitted.nd rfl (by first | exact Or.inl rfl | exact Or.inr rfl) (pe_op op_mod (pe_callTy cl_int rfl T.b_int (by decide +kernel) (pa_cons (pv 2) pa_nil)) (pe_op op_add (pe_op op_fdiv (pv 4) pe_int) pe_int)))
      (pss_cons (ps_if (pt_cmpR op_eq (pv 0) (pe_tx (l := [109, 105, 114, 114, 111, 114, 101, 100]) (by decide +kernel)) (nomark _)) (pss_one (ps_ret (pe_D D__law_fold (by decide) hr (pa_cons (pv 1) pa_nil)))) pss_nil)
      (pss_cons (ps_if (pt_cmpR op_eq (pv 0) (pe_tx (l := [102, 111, 117, 110, 100]) (by decide +kernel)) (nomark _)) (pss_cons (ps_set (i := 8) sc__law_fitted.nd rfl (by first | exact Or.inl rfl | exact Or.inr rfl) (pe_slice sl_str (pv 6) po_none (po_some (pe_op op_fdiv (pv 3) pe_int))))
      (pss_cons (ps_set (i := 9) sc__law_fitted.nd rfl (by first | exact Or.inl rfl | exact Or.inr rfl) (pe_slice sl_str (pv 8) po_none (po_some (pe_callB (call_min2 rfl) rfl T.b_min (by decide +kernel) (pa_cons (pv 7) (pa_cons (pe_op op_fdiv (pv 3) pe_int) pa_nil))))))
      (pss_one (ps_ret (pe_op op_adS (pe_op op_adS (pe_op op_adS (pe_op op_adS (pv 9) (pe_tx (l := [99]) (by decide +kernel))) (pe_slice sl_str (pv 8) po_none (po_some (pv 5)))) (pv 9)) (pe_slice sl_str (pv 8) (po_some (pv 5)) po_none)))))) pss_nil)
      (pss_cons (ps_if (pt_cmpR op_eq (pv 0) (pe_tx (l := [98, 111, 114, 100, 101, 114, 101, 100]) (by decide +kernel)) (nomark _)) (pss_one (ps_ret (pe_op op_adS (pe_slice sl_str (pv 1) po_none (po_some (pe_op op_fdiv (pe_op op_mul pe_int (pv 3)) pe_int))) (pe_slice sl_str (pv 1) po_none (po_some (pv 7)))))) pss_nil)
      (pss_cons (ps_if (pt_cmpR op_eq (pv 0) (pe_tx (l := [109, 105, 114, 114, 111, 114, 115, 116, 97, 114, 116]) (by decide +kernel)) (nomark _)) (pss_one (ps_ret (pe_op op_adS (pe_D D__law_fold (by decide) hr (pa_cons (pe_slice sl_str (pv 1) po_none (po_some (pv 5))) pa_nil)) (pe_slice sl_str (pv 1) (po_some (pv 5)) po_none)))) pss_nil)
      (pss_cons (ps_if (pt_cmpR op_eq (pv 0) (pe_tx (l := [98, 97, 108, 97, 110, 99, 101, 100]) (by decide +kernel)) (nomark _)) (pss_one (ps_ret (pe_D D__law_brackets (by decide) hr (pa_cons (pe_slice sl_str (pv 1) po_none (po_some (pe_op op_fdiv (pv 3) pe_int))) pa_nil)))) pss_nil)
      (pss_cons (ps_if (pt_cmpR op_eq (pv 0) (pe_tx (l := [101, 118, 101, 110, 108, 121]) (by decide +kernel)) (nomark _)) (pss_cons (ps_set (i := 8) sc__law_fitted.nd rfl (by first | exact Or.inl rfl | exact Or.inr rfl) (pe_slice sl_str (pv 1) po_none (po_some (pe_op op_fdiv (pv 3) pe_int))))
      (pss_cons (ps_set (i := 10) sc__law_fitted.nd rfl (by first | exact Or.inl rfl | exact Or.inr rfl) (pe_m1 PySem.F.slot_str_join PySem.F.type_str_join (joiK K) (pe_tx (l := []) (by decide +kernel)) (pe_lc (own := [("letter", 14)]) (g := gName 14) (tt := tYes) rfl sc__law_fitted.nd (pi_str (pv 8)) (blkOk_by (N := ["name", "raw", "cut", "room", "n", "at", "flat", "few", "part", "word", "other", "turned", "one", "two", "letter", "size"]) (sc := defScope (top 57)) (by decide +kernel)) (fun _ _ _ _ _ => (pg_name (i := 14) sc__law_fitted.nd rfl (by first | exact Or.inl rfl | exact Or.inr rfl))) (fun _ _ _ _ _ => pts_nil) (fun _ _ _ _ _ => (pe_ix ix_str (pe_tx (l := [98, 97, 99]) (by decide +kernel)) (pe_m1 PySem.F.slot_str_index PySem.F.type_str_index m_idx (pe_tx (l := [97, 98, 99]) (by decide +kernel)) (pv 14)) (fun _ _ => rfl))))))
      (pss_cons (ps_set (i := 11) sc__law_fitted.nd rfl (by first | exact Or.inl rfl | exact Or.inr rfl) (pe_op op_adS (pv 8) (pv 10)))
      (pss_one (ps_ret (pe_op op_adS (pe_slice sl_str (pv 11) (po_some (pv 5)) po_none) (pe_slice sl_str (pv 11) po_none (po_some (pv 5))))))))) pss_nil)
      (pss_cons (ps_if (pt_cmpR op_eq (pv 0) (pe_tx (l := [99, 111, 112, 105, 101, 100]) (by decide +kernel)) (nomark _)) (pss_cons (ps_set (i := 8) sc__law_fitted.nd rfl (by first | exact Or.inl rfl | exact Or.inr rfl) (pe_slice sl_str (pv 6) po_none (po_some (pe_callB (call_min2 rfl) rfl T.b_min (by decide +kernel) (pa_cons (pe_op op_fdiv (pv 4) pe_int) (pa_cons (pe_op op_fdiv (pe_op op_sub (pv 3) pe_int) pe_int) pa_nil))))))
      (pss_one (ps_ret (pe_op op_adS (pe_op op_adS (pv 8) (pe_tx (l := [99]) (by decide +kernel))) (pv 8))))) pss_nil)
      (pss_cons (ps_if (pt_cmpR op_eq (pv 0) (pe_tx (l := [116, 104, 105, 114, 100, 115]) (by decide +kernel)) (nomark _)) (pss_one (ps_ret (pe_op op_adS (pe_op op_adS (pe_op op_muS (pe_tx (l := [97]) (by decide +kernel)) (pe_op op_fdiv (pv 4) pe_int)) (pe_op op_muS (pe_tx (l := [98]) (by decide +kernel)) (pe_op op_fdiv (pv 4) pe_int))) (pe_op op_muS (pe_tx (l := [99]) (by decide +kernel)) (pe_op op_fdiv (pv 4) pe_int))))) pss_nil)
      (pss_cons (ps_if (pt_cmpR op_eq (pv 0) (pe_tx (l := [112, 111, 119, 101, 114]) (by decide +kernel)) (nomark _)) (pss_one (ps_ret (pe_slice sl_str (pv 1) po_none (po_some (pe_callB (maxK K) rfl T.b_max (by decide +kernel) (pa_cons (pe_lc (own := [("size", 15)]) (g := gName 15)  rfl sc__law_fitted.nd (piLK K (pe_lst (pa_cons pe_int (pa_cons pe_int (pa_cons pe_int (pa_cons pe_int (pa_cons pe_int (pa_cons pe_int (pa_cons pe_int (pa_cons pe_int (pa_cons pe_int (pa_cons pe_int pa_nil)))))))))))) (blkOk_by (N := ["name", "raw", "cut", "room", "n", "at", "flat", "few", "part", "word", "other", "turned", "one", "two", "letter", "size"]) (sc := defScope (top 57)) (by decide +kernel)) (fun _ _ _ _ _ => (pg_name (i := 15) sc__law_fitted.nd rfl (by first | exact Or.inl rfl | exact Or.inr rfl))) (fun _ _ _ _ _ => (pts_one (pt_cmpR op_le (pv 15) (pv 4) (nomark _)))) (fun _ _ _ _ _ => (pv 15))) pa_nil)))))) pss_nil)
      (pss_cons (ps_if (pt_cmpR op_eq (pv 0) (pe_tx (l := [116, 119, 111, 109, 105, 114, 114, 111, 114, 115]) (by decide +kernel)) (nomark _)) (pss_one (ps_ret (pe_op op_adS (pe_D D__law_fold (by decide) hr (pa_cons (pe_slice sl_str (pv 1) po_none (po_some (pv 5))) pa_nil)) (pe_D D__law_fold (by decide) hr (pa_cons (pe_slice sl_str (pv 1) (po_some (pv 5)) po_none) pa_nil))))) pss_nil)
      (pss_cons (ps_if (pt_cmpR op_eq (pv 0) (pe_tx (l := [101, 118, 101, 110, 109, 105, 114, 114, 111, 114, 115]) (by decide +kernel)) (nomark _)) (pss_cons (ps_set (i := 12) sc__law_fitted.nd rfl (by first | exact Or.inl rfl | exact Or.inr rfl) (pe_slice sl_str (pv 1) po_none (po_some (pe_callB (call_min2 rfl) rfl T.b_min (by decide +kernel) (pa_cons (pv 5) (pa_cons (pe_op op_fdiv (pv 3) pe_int) pa_nil))))))
      (pss_cons (ps_set (i := 13) sc__law_fitted.nd rfl (by first | exact Or.inl rfl | exact Or.inr rfl) (pe_slice sl_str (pv 1) (po_some (pv 5)) (po_some (pe_op op_add (pv 5) (pe_op op_fdiv (pv 3) pe_int)))))
      (pss_one (ps_ret (pe_op op_adS (pe_op op_adS (pe_op op_adS (pv 12) (pe_D D__law_back (by decide) hr (pa_cons (pv 12) pa_nil))) (pv 13)) (pe_D D__law_back (by decide) hr (pa_cons (pv 13) pa_nil))))))) pss_nil)
      (pss_one (ps_ret (pv 1))))))))))))))))))), ?_⟩
    have hsm : Sm 400 a := ⟨hz, fun c hc => by rcases habc c hc with h | h | h <;> omega⟩
    refine q_asg (v := .int (a.length : Int)) (ev_lnS (ev_var rfl) (by omega) rfl) fun H1 e1 => ?_
    have hat : ∃ z : Int, cut % ((a.length : Int) + 1) = z ∧ 0 ≤ z ∧ z ≤ (a.length : Int) := ⟨_, rfl, Int.emod_nonneg _ (by omega), by
      have := Int.emod_lt_of_pos cut (show (0 : Int) < (a.length : Int) + 1 by omega)
      omega⟩
    obtain ⟨z, ez, z0, z1⟩ := hat
    refine q_asg (v := .int z) (ev_mod (i := cut) (j := (a.length : Int) + 1) (ev_int (ev_var rfl)) (ev_add (ev_var rfl) ev_c) (by omega) ez) fun H2 e2 => ?_
    refine q_asgB (n := 2 * 400 + 1) (evB_rpl (evB_v (n := 400) (ev_var rfl) hsm) (by omega) (by decide +kernel) (by decide +kernel) (by decide +kernel)) fun fl hfl H3 e3 => ?_
    have hfew : ∃ y : Int, cut % ((a.length : Int) / 3 + 1) = y ∧ 0 ≤ y ∧ y ≤ (a.length : Int) := ⟨_, rfl, Int.emod_nonneg _ (by omega), by
      have := Int.emod_lt_of_pos cut (show (0 : Int) < (a.length : Int) / 3 + 1 by omega)
      omega⟩
    obtain ⟨y, ey, y0, y1⟩ := hfew
    refine q_asg (v := .int y) (ev_mod (i := cut) (j := (a.length : Int) / 3 + 1) (ev_int (ev_var rfl)) (ev_add (ev_div (ev_var rfl) ev_c (by decide) rfl) ev_c) (by omega) ey) fun H4 e4 => ?_
    replace k := fun b hb H5 (e5 : Ex H4 H5) => k b hb H5 ((e1.trans e2).trans ((e3.trans e4).trans e5))
    clear e1 e2 e3 e4
    refine q_when (et_test (ev_eqS (b := [109, 105, 114, 114, 111, 114, 101, 100]) (ev_var rfl) ev_tx)) (fun _ Hc ec => ?_) (fun _ Hc ec => ?_)
    · replace k := fun b hb H5 (e5 : Ex Hc H5) => k b hb H5 (ec.trans e5)
      refine s_retB (evB_fold (evB_v (n := 400) (ev_var rfl) hsm) (by decide)) fun b hb H6 e6 => k b (Sm.up hb (by decide)) H6 e6
    replace k := fun b hb H5 (e5 : Ex Hc H5) => k b hb H5 (ec.trans e5)
    refine q_when (et_test (ev_eqS (b := [102, 111, 117, 110, 100]) (ev_var rfl) ev_tx)) (fun _ Hc ec => ?_) (fun _ Hc ec => ?_)
    · replace k := fun b hb H5 (e5 : Ex Hc H5) => k b hb H5 (ec.trans e5)
      refine q_asgB (evB_sl (evB_v (n := 801) (ev_var rfl) hfl) eo_none (eo_some (ev_div (ev_var rfl) ev_c (by decide) rfl)) (by decide)) fun w hw H6 e6 => ?_
      refine q_asgB (evB_sl (evB_v (n := 801) (ev_var rfl) hw) eo_none (eo_some (ev_min2 (ev_var rfl) (ev_div (ev_var rfl) ev_c (by decide) rfl) rfl)) (by decide)) fun w2 hw2 H7 e7 => ?_
      exact s_retB (evB_ad (evB_ad (evB_ad (evB_ad (evB_v (n := 801) (ev_var rfl) hw2) (evB_v (n := 1) ev_tx (by decide)) (by decide)) (evB_sl (evB_v (n := 801) (ev_var rfl) hw) eo_none (eo_some (ev_var rfl)) (by decide)) (by decide)) (evB_v (n := 801) (ev_var rfl) hw2) (by decide)) (evB_sl (evB_v (n := 801) (ev_var rfl) hw) (eo_some (ev_var rfl)) eo_none (by decide)) (by decide)) fun b hb H8 e8 => k b (Sm.up hb (by decide)) H8 (e6.trans (e7.trans e8))
    replace k := fun b hb H5 (e5 : Ex Hc H5) => k b hb H5 (ec.trans e5)
    refine q_when (et_test (ev_eqS (b := [98, 111, 114, 100, 101, 114, 101, 100]) (ev_var rfl) ev_tx)) (fun _ Hc ec => ?_) (fun _ Hc ec => ?_)
    · replace k := fun b hb H5 (e5 : Ex Hc H5) => k b hb H5 (ec.trans e5)
      exact s_retB (evB_ad (evB_sl (evB_v (n := 400) (ev_var rfl) hsm) eo_none (eo_some (ev_div (ev_mul ev_c (ev_var rfl) (.inl (by decide)) rfl) ev_c (by decide) rfl)) (by decide)) (evB_sl (evB_v (n := 400) (ev_var rfl) hsm) eo_none (eo_some (ev_var rfl)) (by decide)) (by decide)) fun b hb H6 e6 => k b (Sm.up hb (by decide)) H6 e6
    replace k := fun b hb H5 (e5 : Ex Hc H5) => k b hb H5 (ec.trans e5)
    refine q_when (et_test (ev_eqS (b := [109, 105, 114, 114, 111, 114, 115, 116, 97, 114, 116]) (ev_var rfl) ev_tx)) (fun _ Hc ec => ?_) (fun _ Hc ec => ?_)
    · replace k := fun b hb H5 (e5 : Ex Hc H5) => k b hb H5 (ec.trans e5)
      exact s_retB (evB_ad (evB_fold (evB_sl (evB_v (n := 400) (ev_var rfl) hsm) eo_none (eo_some (ev_var rfl)) (by decide)) (by decide)) (evB_sl (evB_v (n := 400) (ev_var rfl) hsm) (eo_some (ev_var rfl)) eo_none (by decide)) (by decide)) fun b hb H6 e6 => k b (Sm.up hb (by decide)) H6 e6
    replace k := fun b hb H5 (e5 : Ex Hc H5) => k b hb H5 (ec.trans e5)
    refine q_when (et_test (ev_eqS (b := [98, 97, 108, 97, 110, 99, 101, 100]) (ev_var rfl) ev_tx)) (fun _ Hc ec => ?_) (fun _ Hc ec => ?_)
    · replace k := fun b hb H5 (e5 : Ex Hc H5) => k b hb H5 (ec.trans e5)
      exact s_retBr (evB_sl (evB_v (n := 400) (ev_var rfl) hsm) eo_none (eo_some (ev_div (ev_var rfl) ev_c (by decide) rfl)) (by decide)) (by decide) fun b hb H6 e6 => k b (Sm.up hb (by decide)) H6 e6
    replace k := fun b hb H5 (e5 : Ex Hc H5) => k b hb H5 (ec.trans e5)
    refine q_when (et_test (ev_eqS (b := [101, 118, 101, 110, 108, 121]) (ev_var rfl) ev_tx)) (fun _ Hc ec => ?_) (fun _ Hc ec => ?_)
    · replace k := fun b hb H5 (e5 : Ex Hc H5) => k b hb H5 (ec.trans e5)
      refine q_asg (v := tx (cutL a none (some (room / 2)))) (ev_slX (ev_var rfl) eo_none (eo_some (ev_div (ev_var rfl) ev_c (by decide) rfl)) (by omega)) fun H6 e6 => ?_
      have hl := cut_len a none (some (room / 2))
      have hm : ∀ c ∈ cutL a none (some (room / 2)), c = 97 ∨ c = 98 ∨ c = 99 := fun c hc => habc c (cut_mem hc)
      revert hl hm
      generalize cutL a none (some (room / 2)) = w
      intro hl hm
      refine q_asg (v := tx (w.map sw3)) (ev_is (ev_joiN (ys := w.map fun c => [sw3 c]) ?_ ev_tx (Evl.EvL.mono (Ex.refl _) ?_)) (by rw [Kb.join_one])) fun H7 e7 => ?_
      · rw [List.map_map, List.length_map]
        have : (w.map (List.length ∘ fun c => [sw3 c])) = w.map fun _ => 1 := rfl
        rw [this, List.map_const', List.sum_replicate_nat]
        show w.length * 1 + w.length * 0 ≤ _
        omega
      · rw [List.map_map]
        refine el_sta (fun c => tx [sw3 c]) (ev_var rfl) (by omega) fun c H8 e8 hc => ?_
        rcases hm c hc with rfl | rfl | rfl
        · exact ev_ixS (k := 0) ev_tx (ev_idx (b := [97]) (r := []) ev_tx (ev_var rfl) (by decide +kernel)) (by decide) rfl
        · exact ev_ixS (k := 1) ev_tx (ev_idx (b := [98]) (r := []) ev_tx (ev_var rfl) (by decide +kernel)) (by decide) rfl
        · exact ev_ixS (k := 2) ev_tx (ev_idx (b := [99]) (r := []) ev_tx (ev_var rfl) (by decide +kernel)) (by decide) rfl
      refine q_asgB (n := 800) (evB_v (ev_adS (ev_var rfl) (ev_var rfl) (by rw [List.length_map]; omega)) ⟨by rw [List.length_append, List.length_map]; omega, fun c hc => (List.mem_append.mp hc).elim (fun hc => by rcases hm c hc with h | h | h <;> omega) (fun hc => by obtain ⟨d, hd, rfl⟩ := List.mem_map.mp hc; rcases hm d hd with rfl | rfl | rfl <;> decide)⟩) fun t ht H8 e8 => ?_
      exact s_retB (evB_ad (evB_sl (evB_v (n := 800) (ev_var rfl) ht) (eo_some (ev_var rfl)) eo_none (by decide)) (evB_sl (evB_v (n := 800) (ev_var rfl) ht) eo_none (eo_some (ev_var rfl)) (by decide)) (by decide)) fun b hb H9 e9 => k b (Sm.up hb (by decide)) H9 ((e6.trans e7).trans (e8.trans e9))
    replace k := fun b hb H5 (e5 : Ex Hc H5) => k b hb H5 (ec.trans e5)
    refine q_when (et_test (ev_eqS (b := [99, 111, 112, 105, 101, 100]) (ev_var rfl) ev_tx)) (fun _ Hc ec => ?_) (fun _ Hc ec => ?_)
    · replace k := fun b hb H5 (e5 : Ex Hc H5) => k b hb H5 (ec.trans e5)
      refine q_asgB (evB_sl (evB_v (n := 801) (ev_var rfl) hfl) eo_none (eo_some (ev_min2 (ev_div (ev_var rfl) ev_c (by decide) rfl) (ev_div (ev_sub (ev_var rfl) ev_c) ev_c (by decide) rfl) rfl)) (by decide)) fun w hw H6 e6 => ?_
      exact s_retB (evB_ad (evB_ad (evB_v (n := 801) (ev_var rfl) hw) (evB_v (n := 1) ev_tx (by decide)) (by decide)) (evB_v (n := 801) (ev_var rfl) hw) (by decide)) fun b hb H7 e7 => k b (Sm.up hb (by decide)) H7 (e6.trans e7)
    replace k := fun b hb H5 (e5 : Ex Hc H5) => k b hb H5 (ec.trans e5)
    refine q_when (et_test (ev_eqS (b := [116, 104, 105, 114, 100, 115]) (ev_var rfl) ev_tx)) (fun _ Hc ec => ?_) (fun _ Hc ec => ?_)
    · replace k := fun b hb H5 (e5 : Ex Hc H5) => k b hb H5 (ec.trans e5)
      exact s_retB (evB_ad (evB_ad (evB_rep (ev_div (ev_var rfl) ev_c (by decide) rfl) (by omega) (by decide)) (evB_rep (ev_div (ev_var rfl) ev_c (by decide) rfl) (by omega) (by decide)) (by decide)) (evB_rep (ev_div (ev_var rfl) ev_c (by decide) rfl) (by omega) (by decide)) (by decide)) fun b hb H6 e6 => k b (Sm.up hb (by decide)) H6 e6
    replace k := fun b hb H5 (e5 : Ex Hc H5) => k b hb H5 (ec.trans e5)
    refine q_when (et_test (ev_eqS (b := [112, 111, 119, 101, 114]) (ev_var rfl) ev_tx)) (fun _ Hc ec => ?_) (fun _ Hc ec => ?_)
    · replace k := fun b hb H5 (e5 : Ex Hc H5) => k b hb H5 (ec.trans e5)
      refine s_retB (evB_sl (evB_v (n := 400) (ev_var rfl) hsm) eo_none (eo_some (i := maxI (([0, 1, 2, 4, 8, 16, 32, 64, 128, 256] : List Int).filter fun s => decide (s ≤ (a.length : Int)))) (ev_maxN ?_ ?_)) (by decide)) fun b hb H6 e6 => k b (Sm.up hb (by decide)) H6 e6
      · have hx : ((([0, 1, 2, 4, 8, 16, 32, 64, 128, 256] : List Int).filter fun s => decide (s ≤ (a.length : Int))).map V.int) = Evl.given (([0, 1, 2, 4, 8, 16, 32, 64, 128, 256] : List Int).map V.int).length (fun i => decide (([0, 1, 2, 4, 8, 16, 32, 64, 128, 256] : List Int).getD i 0 ≤ (a.length : Int))) (fun i => V.int (([0, 1, 2, 4, 8, 16, 32, 64, 128, 256] : List Int).getD i 0)) := filt_given _ _
        rw [hx]
        refine el_ln _ _ (el_lst (vs := ([0, 1, 2, 4, 8, 16, 32, 64, 128, 256] : List Int).map V.int) (ea_cons ev_c (ea_cons ev_c (ea_cons ev_c (ea_cons ev_c (ea_cons ev_c (ea_cons ev_c (ea_cons ev_c (ea_cons ev_c (ea_cons ev_c (ea_cons ev_c ea_nil)))))))))) (by decide)) (by decide) (fun i x H8 e8 hx => ?_) (fun i x H8 e8 hx _ => ?_)
        · obtain ⟨q, rfl, hq⟩ := gmap hx
          have e9 : ([0, 1, 2, 4, 8, 16, 32, 64, 128, 256] : List Int).getD i 0 = q := by simp only [List.getD, hq]; rfl
          rw [e9]
          exact et_test (ev_le (ev_var rfl) (ev_var rfl))
        · obtain ⟨q, rfl, hq⟩ := gmap hx
          have e9 : ([0, 1, 2, 4, 8, 16, 32, 64, 128, 256] : List Int).getD i 0 = q := by simp only [List.getD, hq]; rfl
          rw [e9]
          exact ev_var rfl
      · have : (0 : Int) ∈ (([0, 1, 2, 4, 8, 16, 32, 64, 128, 256] : List Int).filter fun s => decide (s ≤ (a.length : Int))) := List.mem_filter.mpr ⟨List.mem_cons_self, decide_eq_true (by omega)⟩
        exact List.length_pos_of_mem this
    replace k := fun b hb H5 (e5 : Ex Hc H5) => k b hb H5 (ec.trans e5)
    refine q_when (et_test (ev_eqS (b := [116, 119, 111, 109, 105, 114, 114, 111, 114, 115]) (ev_var rfl) ev_tx)) (fun _ Hc ec => ?_) (fun _ Hc ec => ?_)
    · replace k := fun b hb H5 (e5 : Ex Hc H5) => k b hb H5 (ec.trans e5)
      exact s_retB (evB_ad (evB_fold (evB_sl (evB_v (n := 400) (ev_var rfl) hsm) eo_none (eo_some (ev_var rfl)) (by decide)) (by decide)) (evB_fold (evB_sl (evB_v (n := 400) (ev_var rfl) hsm) (eo_some (ev_var rfl)) eo_none (by decide)) (by decide)) (by decide)) fun b hb H6 e6 => k b (Sm.up hb (by decide)) H6 e6
    replace k := fun b hb H5 (e5 : Ex Hc H5) => k b hb H5 (ec.trans e5)
    refine q_when (et_test (ev_eqS (b := [101, 118, 101, 110, 109, 105, 114, 114, 111, 114, 115]) (ev_var rfl) ev_tx)) (fun _ Hc ec => ?_) (fun _ Hc ec => ?_)
    · replace k := fun b hb H5 (e5 : Ex Hc H5) => k b hb H5 (ec.trans e5)
      refine q_asgB (evB_sl (evB_v (n := 400) (ev_var rfl) hsm) eo_none (eo_some (ev_min2 (ev_var rfl) (ev_div (ev_var rfl) ev_c (by decide) rfl) rfl)) (by decide)) fun w hw H6 e6 => ?_
      refine q_asgB (evB_sl (evB_v (n := 400) (ev_var rfl) hsm) (eo_some (ev_var rfl)) (eo_some (ev_add (ev_var rfl) (ev_div (ev_var rfl) ev_c (by decide) rfl))) (by decide)) fun w2 hw2 H7 e7 => ?_
      exact s_retB (evB_ad (evB_ad (evB_ad (evB_v (n := 400) (ev_var rfl) hw) (evB_back (evB_v (n := 400) (ev_var rfl) hw) (by decide)) (by decide)) (evB_v (n := 400) (ev_var rfl) hw2) (by decide)) (evB_back (evB_v (n := 400) (ev_var rfl) hw2) (by decide)) (by decide)) fun b hb H8 e8 => k b (Sm.up hb (by decide)) H8 (e6.trans (e7.trans e8))
    replace k := fun b hb H5 (e5 : Ex Hc H5) => k b hb H5 (ec.trans e5)
    exact s_retB (evB_v (n := 400) (ev_var rfl) hsm) fun b hb H6 e6 => k b (Sm.up hb (by decide)) H6 e6
end K84
set_option Elab.async false
set_option linter.all false
set_option maxRecDepth 100000
set_option maxHeartbeats 4000000
/-! K84G: the law's tales, long, bad and odd inputs. -/
namespace K84
open PySem PySem.Spec PyProof.Rows L2 Kb
open SX (S)
open Evl (Ev EvL EvT EvA Ex RetV RetL SpL ev_var ev_c s_ret s_retL s_asg s_asgL q_asg q_asgL q_when s_when s_if q_if et_or et_not et_and et_B et_test ev_andV ev_notV sq_of eo_some eo_none SpV ev_call ea_cons ea_nil q_ifAsg s_ifAsg q_while s_app q_app el_lst ev_is ex_l)
theorem q_dig {K : PySem.W.Frag} {σ : L2.St} {H : Hp} {ta tb tsz : TE} {D : Ends} {tz : TS} {i : Nat} {p : Addr} {ns sz : List Int} {n : Nat} (ha : Ev ta σ H (.ref p)) (hs : SqL K H p (ns.map V.int)) (hl : ns.length ≤ 63) (hb : Ev tb σ H (.int (n : Int))) (hn : n ≤ 100)
    (hz : EvL tsz σ H (sz.map V.int)) (hzl : sz.length ≤ 1000) (hzp : ∀ m ∈ sz, 0 < m ∧ m < 1073741824)
    (f : ∀ (rs : List Int) (q : Addr) (H1 : Hp), rs.length = sz.length → (∀ (j : Nat) (n : Int), sz[j]? = some n → ∃ r, rs[j]? = some r ∧ 0 ≤ r ∧ r < n) → H q = none → Ex H H1 → H1 q = some (.lst (rs.map V.int)) → tz D (σ.set i (some (.ref q))) H1) :
    tSeq (tAsg (tCall (spDig K) [] E0 (tCons (tCall (spCell K) [] E0 (tCons ta (tCons tb tNil))) (tCons tsz tNil))) (gName i)) tz D σ H :=
  ha H (Ex.refl H) _ fun H1 e1 => hb H1 e1 _ fun H2 e2 => ⟨p, ns, n, rfl, ex_l (e1.trans e2) hs, hl, hn, fun z H3 e3 => hz H3 ((e1.trans e2).trans e3) _ fun r H4 hr e4 h4 => ⟨z, r, sz, rfl, sq_of h4, hzl, hzp, fun rs hrl hrs q H5 hq e5 h5 =>
    f rs q H5 hrl (fun j m hj => by
      have hj2 := (List.getElem?_eq_some_iff.mp hj).1
      have hj3 : rs[j]? = some rs[j] := List.getElem?_eq_getElem (by omega)
      exact ⟨rs[j], hj3, hrs j rs[j] m hj3 hj⟩) (Evl.fresh_back (e1.trans (e2.trans (e3.trans e4))) hq) (e1.trans (e2.trans (e3.trans (e4.trans e5)))) h5⟩⟩
def spTale (K : PySem.W.Frag) : Sp := fun vs H Q _ => ∃ (p : Addr) (ns : List Int) (n : Nat) (nm : List Nat) (room : Int), vs = [.ref p, .int (n : Int), tx nm, .int room] ∧ SqL K H p (ns.map V.int) ∧ ns.length ≤ 63 ∧ n ≤ 100 ∧ (room = 40 ∨ room = 400) ∧ ∀ b : List Nat, Sm room.toNat b → RetV (tx b) H Q
def spLong : Sp := fun vs H Q _ => ∃ (a b : List Nat) (kind size : Int), vs = [tx a, tx b, .int kind, .int size] ∧ Sm 400 a ∧ Sm 41 b ∧ (0 ≤ kind ∧ kind < 9) ∧ (0 ≤ size ∧ size < 403) ∧ ∀ c : List Nat, Sm 403 c → RetV (tx c) H Q
def RetG (H : Hp) (Q : VK) : Prop := ∀ v H1, Ex H H1 → GV H1 v → Q v H1
def spBad : Sp := fun vs H Q _ => ∃ (a : List Nat) (kind spot : Int), vs = [tx a, .int kind, .int spot] ∧ Sm 400 a ∧ (0 ≤ kind ∧ kind < 16) ∧ RetG H Q
def spOdd : Sp := fun vs H Q _ => ∃ (nm : List Nat) (kind spot letter : Int), vs = [tx nm, .int kind, .int spot, .int letter] ∧ nm ∈ names15 ∧ (0 ≤ kind ∧ kind < 17) ∧ (0 ≤ letter ∧ letter < 26) ∧ RetG H Q
def szT : List Int := [4, 6, 12, 41, 41, 41, 3, 3, 3, 3, 3, 3, 3, 3, 3, 3, 3, 3, 3, 3, 3, 3, 3, 3, 3, 3, 3, 3, 3, 3, 3, 3, 3, 3, 3, 3, 3, 3, 3, 3, 3, 3, 3, 3, 3, 3, 3]
theorem sz3a : ∀ m : _root_.Fin szT.length, 7 ≤ m.val → szT[m.val] = 3 := by decide
theorem sz3 (m : Nat) (h : m < szT.length) (h7 : 7 ≤ m) : szT[m] = 3 := sz3a ⟨m, h⟩ h7
theorem s_asgFit {σ : L2.St} {H : Hp} {ta tb tc td : TE} {D : Ends} {k : Nat} {nm a : List Nat} {cut room : Int} (ha : Ev ta σ H (tx nm)) (hb : Ev tb σ H (tx a)) (hc : Ev tc σ H (.int cut)) (hd : Ev td σ H (.int room)) (h1 : a.length ≤ 400)
    (h2 : 40 ≤ room ∧ room ≤ 400) (h3 : ∀ c ∈ a, c = 97 ∨ c = 98 ∨ c = 99) (f : ∀ b : List Nat, Sm 4000 b → ∀ H1, Ex H H1 → D.nx (σ.set k (some (tx b))) H1) : tAsg (tCall spFit [] E0 (tCons ta (tCons tb (tCons tc (tCons td tNil))))) (gName k) D σ H :=
  (ea_cons ha (ea_cons hb (ea_cons hc (ea_cons hd ea_nil)))) H (Ex.refl H) (fun vs H1 => spFit (vs ++ []) H1 (fun x H2 => gName k x σ H2 D.nx) E0) fun H1 e1 => ⟨nm, a, cut, room, rfl, h1, h2, h3, fun b hb H2 e2 => f b hb H2 (e1.trans e2)⟩
def abcAt (d : Int) : Nat := 97 + d.toNat
theorem ev_abc {σ : L2.St} {H : Hp} {tb : TE} {d : Int} (hb : Ev tb σ H (.int d)) (h0 : 0 ≤ d ∧ d < 3) : Ev (tOp rIxS (tC (tx [97, 98, 99])) tb) σ H (tx [abcAt d]) := by
  have h : d = 0 ∨ d = 1 ∨ d = 2 := by omega
  rcases h with rfl | rfl | rfl
  · exact ev_ixS (k := 0) ev_tx hb (by decide) rfl
  · exact ev_ixS (k := 1) ev_tx hb (by decide) rfl
  · exact ev_ixS (k := 2) ev_tx hb (by decide) rfl
theorem abcAt_ok {d : Int} (h0 : 0 ≤ d ∧ d < 3) : abcAt d = 97 ∨ abcAt d = 98 ∨ abcAt d = 99 := by
  have h : d = 0 ∨ d = 1 ∨ d = 2 := by omega
  rcases h with rfl | rfl | rfl
  · exact .inl rfl
  · exact .inr (.inl rfl)
  · exact .inr (.inr rfl)
theorem flat_one {α : Type} (f : α → Nat) (l : List α) : (l.map fun c => [f c]).flatten = l.map f := by
  induction l with
  | nil => rfl
  | cons c r ih =>
    rw [List.map_cons, List.flatten_cons, ih]
    rfl
def cutI (xs : List Int) (lo hi : Option Int) : List Int := (xs.drop (HT.sIx xs.length 0 lo)).take (HT.sIx xs.length xs.length hi - HT.sIx xs.length 0 lo)
theorem cutV_int (xs : List Int) (lo hi : Option Int) : cutV (xs.map V.int) lo hi = (cutI xs lo hi).map V.int := by
  unfold cutV cutI
  rw [List.length_map, ← List.map_drop, ← List.map_take]
theorem sc__law_tale : FnScope ["script", "at", "name", "room", "row", "size", "text", "spot", "letter", "digit"] ["script", "at", "name", "room"] (defScope (top 58)) := ⟨rfl, rfl, rfl, by decide +kernel, rfl, by decide +kernel, by decide +kernel⟩
theorem ok__law_tale {P : Program} {w : World} {K : PySem.W.Frag} {mg : Str → Option Value} {base : Heap} (T : Tp w K mg) : DefOk P w K mg base CX0 "_law_tale" 4 ["script", "at", "name", "room"] (spTale K) := by
  have D__law_digits := ok__law_digits (P := P) (base := base) T
  have D__law_cell := ok__law_cell (P := P) (base := base) T
  have D__law_fitted := ok__law_fitted (P := P) (base := base) T
  refine mkDef0 (f := He.fAd K ("_law_tale", none)) (T.df 26 _ rfl) (T.gg 26 _ rfl) sc__law_tale (fun vs H Q E h => ?_) (fun _ _ _ _ _ _ us hl => match us, hl with | [_, _, _, _], _ => rfl) (fun cdv A outer s H vs Q E hr h => ?_)
  · obtain ⟨p, ns, n, nm, room, rfl, _⟩ := h
    rfl
  · obtain ⟨p, ns, n, nm, room, rfl, hs, hl, hn, hroom, k⟩ := h
    refine ⟨_, (pss_cons (ps_set (i := 4) sc__law_tale.nd rfl (by first | exact Or.inl rfl | exact Or.inr rfl) (pe_D D__law_digits (by decide) hr (pa_cons (pe_D D__law_cell (by decide) hr (pa_cons (pv 0) (pa_cons (pv 1) pa_nil))) (pa_cons (pe_op op_cat (pe_lst (pa_cons pe_int (pa_cons pe_int (pa_cons pe_int (pa_cons pe_int (pa_cons pe_int (pa_cons pe_int (pa_cons pe_int pa_nil)))))))) (pe_op op_rep (pe_lst (pa_cons pe_int pa_nil)) pe_int)) pa_nil))))
      (pss_cons (ps_set (i := 5) sc__law_tale.nd rfl (by first | exact Or.inl rfl | exact Or.inr rfl) (pe_ix (ixL K) (pe_lst (pa_cons pe_int (pa_cons pe_int (pa_cons pe_int (pa_cons pe_int (pa_cons pe_int (pa_cons pe_int (pa_cons pe_int (pa_cons pe_int (pa_cons pe_int (pa_cons pe_int (pa_cons (pe_ix (ixL K) (pv 4) pe_int (fun _ _ => rfl)) (pa_cons (pe_ix (ixL K) (pv 4) pe_int (fun _ _ => rfl)) pa_nil))))))))))))) (pe_ix (ixL K) (pv 4) pe_int (fun _ _ => rfl)) (fun _ _ => rfl)))
      (pss_cons (ps_set (i := 6) sc__law_tale.nd rfl (by first | exact Or.inl rfl | exact Or.inr rfl) (pe_m1 PySem.F.slot_str_join PySem.F.type_str_join (joiK K) (pe_tx (l := []) (by decide +kernel)) (pe_lc (own := [("digit", 9)]) (g := gName 9) (tt := tYes) rfl sc__law_tale.nd (piLK K (pe_slice (slLK K) (pv 4) (po_some pe_int) (po_some (pe_op op_add pe_int (pv 5))))) (blkOk_by (N := ["script", "at", "name", "room", "row", "size", "text", "spot", "letter", "digit"]) (sc := defScope (top 58)) (by decide +kernel)) (fun _ _ _ _ _ => (pg_name (i := 9) sc__law_tale.nd rfl (by first | exact Or.inl rfl | exact Or.inr rfl))) (fun _ _ _ _ _ => pts_nil) (fun _ _ _ _ _ => (pe_ix ix_str (pe_tx (l := [97, 98, 99]) (by decide +kernel)) (pv 9) (fun _ _ => rfl))))))
      (pss_cons (ps_if (pt_cmpR op_gt (pv 3) pe_int (nomark _)) (pss_one (ps_set (i := 6) sc__law_tale.nd rfl (by first | exact Or.inl rfl | exact Or.inr rfl) (pe_slice sl_str (pe_op op_muS (pv 6) (pv 3)) po_none (po_some (pe_op op_fdiv (pe_op op_mul (pv 3) (pe_op op_add (pe_ix (ixL K) (pv 4) pe_int (fun _ _ => rfl)) pe_int)) pe_int))))) pss_nil)
      (pss_cons (ps_if (pt_cmpR op_gt (pe_ix (ixL K) (pv 4) pe_int (fun _ _ => rfl)) pe_int (nomark _)) (pss_one (ps_set (i := 6) sc__law_tale.nd rfl (by first | exact Or.inl rfl | exact Or.inr rfl) (pe_D D__law_fitted (by decide) hr (pa_cons (pv 2) (pa_cons (pv 6) (pa_cons (pe_op op_mul (pe_ix (ixL K) (pv 4) pe_int (fun _ _ => rfl)) (pe_op op_fdiv (pv 3) pe_int)) (pa_cons (pv 3) pa_nil))))))) pss_nil)
      (pss_cons (ps_set (i := 7) sc__law_tale.nd rfl (by first | exact Or.inl rfl | exact Or.inr rfl) (pe_op op_mod (pe_callTy cl_int rfl T.b_int (by decide +kernel) (pa_cons (pe_op op_mul (pe_ix (ixL K) (pv 4) pe_int (fun _ _ => rfl)) (pe_op op_fdiv (pv 3) pe_int)) pa_nil)) (pe_op op_add (pe_callB cl_lnS rfl T.b_len (by decide +kernel) (pa_cons (pv 6) pa_nil)) pe_int)))
      (pss_cons (ps_set (i := 8) sc__law_tale.nd rfl (by first | exact Or.inl rfl | exact Or.inr rfl) (pe_ix ix_str (pe_tx (l := [97, 98, 99]) (by decide +kernel)) (pe_ix (ixL K) (pv 4) pe_int (fun _ _ => rfl)) (fun _ _ => rfl)))
      (pss_cons (ps_if (pt_cmpR op_eq (pe_ix (ixL K) (pv 4) pe_int (fun _ _ => rfl)) pe_int (nomark _)) (pss_one (ps_set (i := 6) sc__law_tale.nd rfl (by first | exact Or.inl rfl | exact Or.inr rfl) (pe_op op_adS (pe_op op_adS (pe_slice sl_str (pv 6) po_none (po_some (pv 7))) (pv 8)) (pe_slice sl_str (pv 6) (po_some (pe_op op_add (pv 7) pe_int)) po_none)))) pss_nil)
      (pss_cons (ps_if (pt_cmpR op_eq (pe_ix (ixL K) (pv 4) pe_int (fun _ _ => rfl)) pe_int (nomark _)) (pss_one (ps_set (i := 6) sc__law_tale.nd rfl (by first | exact Or.inl rfl | exact Or.inr rfl) (pe_op op_adS (pe_slice sl_str (pv 6) po_none (po_some (pv 7))) (pe_slice sl_str (pv 6) (po_some (pe_op op_add (pv 7) pe_int)) po_none)))) pss_nil)
      (pss_cons (ps_if (pt_cmpR op_eq (pe_ix (ixL K) (pv 4) pe_int (fun _ _ => rfl)) pe_int (nomark _)) (pss_one (ps_set (i := 6) sc__law_tale.nd rfl (by first | exact Or.inl rfl | exact Or.inr rfl) (pe_op op_adS (pe_op op_adS (pe_slice sl_str (pv 6) po_none (po_some (pv 7))) (pv 8)) (pe_slice sl_str (pv 6) (po_some (pv 7)) po_none)))) pss_nil)
      (pss_one (ps_ret (pe_slice sl_str (pv 6) po_none (po_some (pv 3))))))))))))))), ?_⟩
    have hr0 : 40 ≤ room ∧ room ≤ 400 := by omega
    refine q_dig (sz := szT) (ev_var rfl) hs hl (ev_var rfl) hn ?_ (by decide) (by decide) fun rs q H1 hrl hrs hq e1 h1 => ?_
    · exact el_catN (xs := ([4, 6, 12, 41, 41, 41, 3] : List Int).map V.int) (ys := (List.replicate (40 : Int).toNat [V.int 3]).flatten) (el_lst (ea_cons ev_c (ea_cons ev_c (ea_cons ev_c (ea_cons ev_c (ea_cons ev_c (ea_cons ev_c (ea_cons ev_c ea_nil))))))) (by decide)) (fun H2 e2 => el_rep (xs := [V.int 3]) (k := 40) (el_lst (ea_cons ev_c ea_nil) (by decide)) (fun H3 e3 => ev_c) (by decide) (by decide)) (by decide)
    obtain ⟨r0, g0, r00, r01⟩ := hrs 0 4 rfl
    obtain ⟨r1, g1, r10, r11⟩ := hrs 1 6 rfl
    obtain ⟨r2, g2, r20, r21⟩ := hrs 2 12 rfl
    obtain ⟨r3, g3, r30, r31⟩ := hrs 3 41 rfl
    obtain ⟨r4, g4, r40, r41⟩ := hrs 4 41 rfl
    obtain ⟨r5, g5, r50, r51⟩ := hrs 5 41 rfl
    obtain ⟨r6, g6, r60, r61⟩ := hrs 6 3 rfl
    have row : ∀ {σ : L2.St} {H2 : Hp} {j : Nat} {r : Int}, σ[4]? = some (some (.ref q)) → Ex H1 H2 → rs[j]? = some r → Ev (tOp (rIxL K) (tVar 4) (tC (.int (j : Int)))) σ H2 (.int r) := fun hσ e2 hj => ev_ixL (ev_var hσ) ev_c (sq_of (e2 _ _ h1)) (gmap2 hj)
    have hsz : ∃ sz : Int, ([4, 3, 5, 6, 2, 7, 9, 12, 8, 1, r3, r3] : List Int)[r2.toNat]? = some sz ∧ 0 ≤ sz ∧ sz ≤ 41 := by
      have hlt : r2.toNat < ([4, 3, 5, 6, 2, 7, 9, 12, 8, 1, r3, r3] : List Int).length := by show _ < 12; omega
      refine ⟨_, List.getElem?_eq_getElem hlt, ?_⟩
      have hall : ∀ x ∈ ([4, 3, 5, 6, 2, 7, 9, 12, 8, 1, r3, r3] : List Int), 0 ≤ x ∧ x ≤ 41 := by
        intro x hx
        simp only [List.not_mem_nil, List.mem_cons, or_false] at hx
        omega
      exact hall _ (List.getElem_mem hlt)
    obtain ⟨sz, hsz, sz0, sz1⟩ := hsz
    refine q_asg (v := .int sz) (ev_ixN (xs := ([4, 3, 5, 6, 2, 7, 9, 12, 8, 1, r3, r3] : List Int).map V.int) (k := r2.toNat) (el_lst (ea_cons ev_c (ea_cons ev_c (ea_cons ev_c (ea_cons ev_c (ea_cons ev_c (ea_cons ev_c (ea_cons ev_c (ea_cons ev_c (ea_cons ev_c (ea_cons ev_c (ea_cons (row rfl (Ex.refl _) g3) (ea_cons (row rfl (Ex.refl _) g3) ea_nil)))))))))))) (by simp)) (fun H2 e2 => ev_is (row rfl e2 g2) (by congr 1; omega)) (gmap2 hsz)) fun H2 e2 => ?_
    have hcut : ∀ d ∈ cutI rs (some 7) (some (7 + sz)), 0 ≤ d ∧ d < 3 := fun d hd => by
      unfold cutI at hd
      have hd2 := List.mem_of_mem_take hd
      obtain ⟨j, hj, ej⟩ := List.getElem_of_mem hd2
      rw [List.getElem_drop] at ej
      have h7 : HT.sIx rs.length 0 (some 7) = 7 := by
        have := sIx_nn rs.length 0 7
        have hlen : rs.length = 47 := hrl
        rw [hlen] at this
        rw [hlen]
        exact this
      rw [List.length_drop] at hj
      have hlen : rs.length = 47 := hrl
      have hlt : HT.sIx rs.length 0 (some 7) + j < szT.length := by show _ < 47; omega
      obtain ⟨r, e3, h0, h3⟩ := hrs (HT.sIx rs.length 0 (some 7) + j) szT[HT.sIx rs.length 0 (some 7) + j] (List.getElem?_eq_getElem hlt)
      rw [List.getElem?_eq_getElem (by omega)] at e3
      have e4 := Option.some.inj e3
      rw [sz3 _ hlt (by omega)] at h3
      rw [ej] at e4
      subst e4
      exact ⟨h0, h3⟩
    have hclen : (cutI rs (some 7) (some (7 + sz))).length ≤ 40 := by
      unfold cutI
      have h7 : HT.sIx rs.length 0 (some 7) = 7 := by
        have := sIx_nn rs.length 0 7
        have hlen : rs.length = 47 := hrl
        rw [hlen] at this
        rw [hlen]
        exact this
      have hlen : rs.length = 47 := hrl
      rw [List.length_take, List.length_drop, h7]
      omega
    revert hcut hclen
    generalize hds : cutI rs (some 7) (some (7 + sz)) = ds
    intro hcut hclen
    refine q_asg (v := tx (ds.map abcAt)) (ev_is (ev_joiN (ys := ds.map fun d => [abcAt d]) ?_ ev_tx ?_) (by rw [join_flat]; exact congrArg tx (flat_one abcAt ds))) fun H3 e3 => ?_
    · rw [List.map_map, List.length_map]
      have : (ds.map (List.length ∘ fun d => [abcAt d])) = ds.map fun _ => 1 := rfl
      rw [this, List.map_const', List.sum_replicate_nat]
      show ds.length * 1 + ds.length * 0 ≤ _
      omega
    · rw [List.map_map]
      refine el_lna 0 V.int (fun d => tx [abcAt d]) (xs := ds) ?_ (by omega) fun d H8 e8 hd => ev_abc (ev_var rfl) (hcut d hd)
      rw [← hds, ← cutV_int]
      exact Evl.el_sl (ev_var rfl) (eo_some ev_c) (eo_some (ev_add (i := 7) ev_c (ev_var rfl))) (sq_of (e2 _ _ h1))
    have habc : ∀ c ∈ ds.map abcAt, c = 97 ∨ c = 98 ∨ c = 99 := fun c hc => by
      obtain ⟨d, hd, rfl⟩ := List.mem_map.mp hc
      exact abcAt_ok (hcut d hd)
    have hal : (ds.map abcAt).length ≤ 40 := by rw [List.length_map]; exact hclen
    revert habc hal
    generalize ds.map abcAt = a
    intro habc hal
    refine q_ifX (k := 6) (fun x => x.length ≤ 400 ∧ ∀ c ∈ x, c = 97 ∨ c = 98 ∨ c = 99) (et_test (ev_gt (i := room) (j := 40) (ev_var rfl) ev_c)) (fun hb H4 e4 D' g => ?_) (fun hb => ⟨a, ⟨by omega, habc⟩, rfl⟩) fun t ht H4 e4 => ?_
    · refine s_asg (v := tx (cutL (List.replicate room.toNat a).flatten none (some (room * (r3 + 1) / 41)))) (ev_slS (ev_muS (a := a) (i := room) 40 400 (ev_var rfl) (ev_var rfl) hal (by omega) (by omega) (by decide) (by decide)) eo_none (eo_some (ev_div (ev_mul (ev_var rfl) (ev_add (row rfl ((e2.trans e3).trans e4) g3) ev_c) (.inl (by omega)) rfl) ev_c (by decide) rfl)) ?_ rfl) fun H5 e5 => g _ ⟨?_, fun c hc => ?_⟩ H5 e5
      · rw [List.length_flatten, List.map_replicate, List.sum_replicate_nat]
        have : room.toNat ≤ 400 := by omega
        exact Nat.le_trans (Nat.mul_le_mul this hal) (by decide)
      · have h41 : room * (r3 + 1) / 41 ≤ 400 := by
          rcases hroom with rfl | rfl <;> omega
        have h40 : 0 ≤ room * (r3 + 1) / 41 := by
          rcases hroom with rfl | rfl <;> omega
        have := cut_toLen (List.replicate room.toNat a).flatten h40
        omega
      · have hc2 := cut_mem hc
        obtain ⟨l, hl1, hl2⟩ := List.mem_flatten.mp hc2
        rw [(List.mem_replicate.mp hl1).2] at hl2
        exact habc c hl2
    obtain ⟨ht1, ht2⟩ := ht
    refine q_ifX (k := 6) (fun x => Sm 4000 x) (et_test (ev_gt (i := r0) (j := 0) (row rfl (e2.trans (e3.trans e4)) g0) ev_c)) (fun hb H5 e5 D' g => ?_) (fun hb => ⟨t, ⟨by omega, fun c hc => by rcases ht2 c hc with h | h | h <;> omega⟩, rfl⟩) fun t2 ht2 H5 e5 => ?_
    · exact s_asgFit (ev_var rfl) (ev_var rfl) (ev_mul (row rfl (e2.trans (e3.trans (e4.trans e5))) g5) (ev_div (ev_var rfl) ev_c (by decide) rfl) (.inl (by omega)) rfl) (ev_var rfl) ht1 hr0 ht2 g
    have e25 := e2.trans (e3.trans (e4.trans e5))
    have hsp : ∃ z : Int, (r4 * (room / 40)) % ((t2.length : Int) + 1) = z := ⟨_, rfl⟩
    obtain ⟨z, ez⟩ := hsp
    have ht20 := ht2.1
    refine q_asg (v := .int z) (ev_mod (i := r4 * (room / 40)) (j := (t2.length : Int) + 1) (ev_int (ev_mul (row rfl e25 g4) (ev_div (ev_var rfl) ev_c (by decide) rfl) (.inl (by omega)) rfl)) (ev_add (ev_lnS (ev_var rfl) (by omega) rfl) ev_c) (by omega) ez) fun H6 e6 => ?_
    refine q_asg (v := tx [abcAt r6]) (ev_abc (row rfl (e25.trans e6) g6) ⟨r60, r61⟩) fun H7 e7 => ?_
    have hlet : Sm 1 [abcAt r6] := ⟨Nat.le_refl 1, fun c hc => by
      have hc2 : c = abcAt r6 := by simpa using hc
      rcases abcAt_ok ⟨r60, r61⟩ with h | h | h <;> omega⟩
    have ht21 := ht2.1
    have e27 := e25.trans (e6.trans e7)
    refine q_ifB (k := 6) (n := 4000 + 1 + 4000) (a := t2) (et_test (ev_eqI (row rfl e27 g1) ev_c)) (fun _ => evB_ad (evB_ad (evB_sl (evB_v (n := 4000) (ev_var rfl) ht2) eo_none (eo_some (ev_var rfl)) (by decide)) (evB_v (n := 1) (ev_var rfl) hlet) (by decide)) (evB_sl (evB_v (n := 4000) (ev_var rfl) ht2) (eo_some (ev_add (ev_var rfl) ev_c)) eo_none (by decide)) (by decide)) (ht2.up (by decide)) rfl fun t3 ht3 H8 e8 => ?_
    refine q_ifB (k := 6) (n := 8001 + 8001) (a := t3) (et_test (ev_eqI (row rfl (e27.trans e8) g1) ev_c)) (fun _ => evB_ad (evB_sl (evB_v (n := 8001) (ev_var rfl) ht3) eo_none (eo_some (ev_var rfl)) (by decide)) (evB_sl (evB_v (n := 8001) (ev_var rfl) ht3) (eo_some (ev_add (ev_var rfl) ev_c)) eo_none (by decide)) (by decide)) (ht3.up (by decide)) rfl fun t4 ht4 H9 e9 => ?_
    refine q_ifB (k := 6) (n := 16002 + 1 + 16002) (a := t4) (et_test (ev_eqI (row rfl (e27.trans (e8.trans e9)) g1) ev_c)) (fun _ => evB_ad (evB_ad (evB_sl (evB_v (n := 16002) (ev_var rfl) ht4) eo_none (eo_some (ev_var rfl)) (by decide)) (evB_v (n := 1) (ev_var rfl) hlet) (by decide)) (evB_sl (evB_v (n := 16002) (ev_var rfl) ht4) (eo_some (ev_var rfl)) eo_none (by decide)) (by decide)) (ht4.up (by decide)) rfl fun t5 ht5 H10 e10 => ?_
    have ht51 := ht5.1
    refine s_ret (ev_slS (ev_var rfl) eo_none (eo_some (ev_var rfl)) (by omega) rfl) fun H11 e11 => k _ ?_ H11 (e1.trans (e27.trans (e8.trans (e9.trans (e10.trans e11)))))
    exact ht5.sub (fun c hc => cut_mem hc) (cut_toLen t5 (h := room) (by omega))
theorem sc__law_long : FnScope ["text", "base", "kind", "size"] ["text", "base", "kind", "size"] (defScope (top 66)) := ⟨rfl, rfl, rfl, by decide +kernel, rfl, by decide +kernel, by decide +kernel⟩
theorem ok__law_long {P : Program} {w : World} {K : PySem.W.Frag} {mg : Str → Option Value} {base : Heap} (T : Tp w K mg) : DefOk P w K mg base CX0 "_law_long" 1 ["text", "base", "kind", "size"] (spLong) := by
  refine mkDef0 (f := He.fAd K ("_law_long", none)) (T.df 34 _ rfl) (T.gg 34 _ rfl) sc__law_long (fun vs H Q E h => ?_) (fun _ _ _ _ _ _ us hl => match us, hl with | [_, _, _, _], _ => rfl) (fun cdv A outer s H vs Q E hr h => ?_)
  · obtain ⟨a, b, kind, size, rfl, _⟩ := h
    rfl
  · obtain ⟨a, b, kind, size, rfl, ha, hb, hk, hsz, k⟩ := h
    refine ⟨_, (pss_cons (ps_if (pt_cmpR op_lt (pv 2) pe_int (nomark _)) (pss_one (ps_ret (pv 0))) pss_nil)
      (pss_one (ps_ret (pe_slice sl_str (pe_op op_muS (pv 1) pe_int) po_none (po_some (pe_ix (ixL K) (pe_lst (pa_cons pe_int (pa_cons pe_int (pa_cons pe_int (pa_cons pe_int (pa_cons (pv 3) pa_nil)))))) (pe_op op_sub (pv 2) pe_int) (fun _ _ => rfl))))))), ?_⟩
    refine q_when (et_test (ev_lt (i := kind) (j := 4) (ev_var rfl) ev_c)) (fun _ H1 e1 => s_ret (ev_var rfl) fun H2 e2 => k a (ha.up (by decide)) H2 (e1.trans e2)) (fun hb2 H1 e1 => ?_)
    have h4 : ¬ kind < 4 := of_decide_eq_false hb2
    have hsz : ∃ z : Int, ([400, 401, 40, 41, size] : List Int)[(kind - 4).toNat]? = some z ∧ 0 ≤ z ∧ z ≤ 402 := by
      have hlt : (kind - 4).toNat < ([400, 401, 40, 41, size] : List Int).length := by show _ < 5; omega
      refine ⟨_, List.getElem?_eq_getElem hlt, ?_⟩
      have hall : ∀ x ∈ ([400, 401, 40, 41, size] : List Int), 0 ≤ x ∧ x ≤ 402 := by
        intro x hx
        simp only [List.not_mem_nil, List.mem_cons, or_false] at hx
        omega
      exact hall _ (List.getElem_mem hlt)
    obtain ⟨z, hz, z0, z1⟩ := hsz
    refine s_ret (ev_slS (ev_muS (a := b) (i := 403) 41 403 (ev_var rfl) ev_c hb.1 (by omega) (by omega) (by decide) (by decide)) eo_none (eo_some (ev_ixN (xs := ([400, 401, 40, 41, size] : List Int).map V.int) (k := (kind - 4).toNat) (el_lst (ea_cons ev_c (ea_cons ev_c (ea_cons ev_c (ea_cons ev_c (ea_cons (ev_var rfl) ea_nil))))) (by simp)) (fun H2 e2 => ev_is (ev_sub (i := kind) (ev_var rfl) ev_c) (by congr 1; omega)) (gmap2 hz))) ?_ rfl) fun H2 e2 => k _ ?_ H2 (e1.trans e2)
    · rw [List.length_flatten, List.map_replicate, List.sum_replicate_nat]
      exact Nat.le_trans (Nat.mul_le_mul (Nat.le_refl 403) hb.1) (by decide)
    · refine ⟨Nat.le_trans (cut_toLen (List.replicate (403 : Int).toNat b).flatten z0) (by omega), fun c hc => ?_⟩
      obtain ⟨l, hl1, hl2⟩ := List.mem_flatten.mp (cut_mem hc)
      rw [(List.mem_replicate.mp hl1).2] at hl2
      exact hb.2 c hl2
end K84
set_option Elab.async false
set_option linter.all false
set_option maxRecDepth 100000
set_option maxHeartbeats 4000000
/-! K84H: the law's bad and odd inputs. -/
namespace K84
open PySem PySem.Spec PyProof.Rows L2 Kb
open SX (S)
open Evl (Ev EvL EvU EvT EvA EvO Ex RetV RetL SpL ev_var ev_c s_ret s_retL s_asg s_asgL q_asg q_asgL q_when s_when s_if q_if et_or et_not et_and et_B et_test ev_andV ev_notV sq_of eo_some eo_none SpV ev_call ea_cons ea_nil q_ifAsg s_ifAsg q_while s_app q_app el_lst ev_is ex_l)
theorem eu_tupOf {K : PySem.W.Frag} {σ : L2.St} {H : Hp} {te : TE} {xs : List V} (h : EvL te σ H xs) : EvU (tCB (fun xs H Q => ∃ p ys, xs = [.ref p] ∧ ((SqL K H p ys ∧ ∀ l, H l = none → Q (.ref l) (upd H l (.tup ys))) ∨ (SqT K H p ys ∧ Q (.ref p) H))) (tCons te tNil)) σ H xs :=
  fun H1 e Q q => h H1 e _ fun p H2 hp e2 h2 => ⟨p, xs, rfl, .inl ⟨sq_of h2, fun o ho => q o _ (Evl.fresh_back e2 ho) (e2.trans (Ex.new ho)) upd_same⟩⟩
/-- texts of signs below 128, at most 20 of them -/
def EvAs (te : TE) (σ : L2.St) (H : Hp) : Prop := ∃ b : List Nat, (b.length ≤ 20 ∧ b.all (· < 128) = true) ∧ Ev te σ H (tx b)
theorem evA_v {σ : L2.St} {H : Hp} {te : TE} {a : List Nat} (h : Ev te σ H (tx a)) (hn : a.length ≤ 20 ∧ a.all (· < 128) = true) : EvAs te σ H := ⟨a, hn, h⟩
theorem evA_sl {σ : L2.St} {H : Hp} {te : TE} {tl th : TO} {lo hi : Option Int} (ha : EvAs te σ H) (h1 : EvO tl σ H lo) (h2 : EvO th σ H hi) : EvAs (tSl rSlS te tl th) σ H := by
  obtain ⟨b, ⟨hb, hc⟩, h⟩ := ha
  exact ⟨_, ⟨Nat.le_trans (cut_len b lo hi) hb, List.all_eq_true.mpr fun x hx => List.all_eq_true.mp hc x (cut_mem hx)⟩, ev_slS h h1 h2 (by omega) rfl⟩
theorem up1_lt {c : Nat} (h : c < 128) : up1 c < 128 := by
  unfold up1
  split <;> omega
theorem evB_upp {σ : L2.St} {H : Hp} {te : TE} (h : EvAs te σ H) : EvB (tM0 rUpp te) σ H 20 := by
  obtain ⟨b, ⟨hb, hc⟩, h⟩ := h
  exact ⟨b.map up1, ⟨by rw [List.length_map]; exact hb, fun c hcm => by
    obtain ⟨d, hd, rfl⟩ := List.mem_map.mp hcm
    exact up1_lt (by simpa using List.all_eq_true.mp hc d hd)⟩, fun H1 e Q q => h H1 e _ fun H2 e2 => ⟨⟨S b, rfl⟩, S b, rfl, rfl, by rw [SX.S_len]; omega, by rw [SX.upper_S hc]; exact q H2 e2⟩⟩
theorem name_facts : ∀ nm ∈ names15, 1 ≤ nm.length ∧ nm.length ≤ 20 ∧ nm.all (· < 128) = true := by decide +kernel
theorem alpha_lt : ∀ c ∈ ([97, 98, 99, 100, 101, 102, 103, 104, 105, 106, 107, 108, 109, 110, 111, 112, 113, 114, 115, 116, 117, 118, 119, 120, 121, 122] : List Nat), c < 128 := by decide
def signsL : List (List Nat) := [[100], [65], [32], [60], [62], [49], [122], [66], [67], [45]]
theorem sign_at : ∀ i : _root_.Fin 10, ∃ c, signsL[i.val]? = some [c] ∧ c < 128 := by
  intro i
  match i with
  | 0 => exact ⟨_, rfl, by decide⟩
  | 1 => exact ⟨_, rfl, by decide⟩
  | 2 => exact ⟨_, rfl, by decide⟩
  | 3 => exact ⟨_, rfl, by decide⟩
  | 4 => exact ⟨_, rfl, by decide⟩
  | 5 => exact ⟨_, rfl, by decide⟩
  | 6 => exact ⟨_, rfl, by decide⟩
  | 7 => exact ⟨_, rfl, by decide⟩
  | 8 => exact ⟨_, rfl, by decide⟩
  | 9 => exact ⟨_, rfl, by decide⟩
theorem sc__law_bad : FnScope ["text", "kind", "spot", "at", "sign", "letter"] ["text", "kind", "spot"] (defScope (top 67)) := ⟨rfl, rfl, rfl, by decide +kernel, rfl, by decide +kernel, by decide +kernel⟩
theorem ok__law_bad {P : Program} {w : World} {K : PySem.W.Frag} {mg : Str → Option Value} {base : Heap} (T : Tp w K mg) : DefOk P w K mg base CX0 "_law_bad" 1 ["text", "kind", "spot"] (spBad) := by
  refine mkDef0 (f := He.fAd K ("_law_bad", none)) (T.df 35 _ rfl) (T.gg 35 _ rfl) sc__law_bad (fun vs H Q E h => ?_) (fun _ _ _ _ _ _ us hl => match us, hl with | [_, _, _], _ => rfl) (fun cdv A outer s H vs Q E hr h => ?_)
  · obtain ⟨a, kind, spot, rfl, _⟩ := h
    rfl
  · obtain ⟨a, kind, spot, rfl, ha, hk, k⟩ := h
    refine ⟨_, (pss_cons (ps_set (i := 3) sc__law_bad.nd rfl (by first | exact Or.inl rfl | exact Or.inr rfl) (pe_op op_mod (pe_callTy cl_int rfl T.b_int (by decide +kernel) (pa_cons (pv 2) pa_nil)) (pe_op op_add (pe_callB cl_lnS rfl T.b_len (by decide +kernel) (pa_cons (pv 0) pa_nil)) pe_int)))
      (pss_cons (ps_if (pt_cmpR op_lt (pv 1) pe_int (nomark _)) (pss_one (ps_ret (pe_ix (ixL K) (pe_lst (pa_cons pe_non (pa_cons pe_int (pa_cons pe_bl (pa_cons (pe_lst pa_nil) (pa_cons (pe_lc (own := [("letter", 5)]) (g := gName 5) (tt := tYes) rfl sc__law_bad.nd (pi_str (pv 0)) (blkOk_by (N := ["text", "kind", "spot", "at", "sign", "letter"]) (sc := defScope (top 67)) (by decide +kernel)) (fun _ _ _ _ _ => (pg_name (i := 5) sc__law_bad.nd rfl (by first | exact Or.inl rfl | exact Or.inr rfl))) (fun _ _ _ _ _ => pts_nil) (fun _ _ _ _ _ => (pv 5))) (pa_cons (pe_callTy call_tuple_of rfl T.b_tuple (by decide +kernel) (pa_cons (pe_lc (own := [("letter", 5)]) (g := gName 5) (tt := tYes) rfl sc__law_bad.nd (pi_str (pv 0)) (blkOk_by (N := ["text", "kind", "spot", "at", "sign", "letter"]) (sc := defScope (top 67)) (by decide +kernel)) (fun _ _ _ _ _ => (pg_name (i := 5) sc__law_bad.nd rfl (by first | exact Or.inl rfl | exact Or.inr rfl))) (fun _ _ _ _ _ => pts_nil) (fun _ _ _ _ _ => (pv 5))) pa_nil)) pa_nil))))))) (pv 1) (fun _ _ => rfl)))) pss_nil)
      (pss_cons (ps_set (i := 4) sc__law_bad.nd rfl (by first | exact Or.inl rfl | exact Or.inr rfl) (pe_ix (ixL K) (pe_lst (pa_cons (pe_tx (l := [100]) (by decide +kernel)) (pa_cons (pe_tx (l := [65]) (by decide +kernel)) (pa_cons (pe_tx (l := [32]) (by decide +kernel)) (pa_cons (pe_tx (l := [60]) (by decide +kernel)) (pa_cons (pe_tx (l := [62]) (by decide +kernel)) (pa_cons (pe_tx (l := [49]) (by decide +kernel)) (pa_cons (pe_tx (l := [122]) (by decide +kernel)) (pa_cons (pe_tx (l := [66]) (by decide +kernel)) (pa_cons (pe_tx (l := [67]) (by decide +kernel)) (pa_cons (pe_tx (l := [45]) (by decide +kernel)) pa_nil))))))))))) (pe_op op_sub (pv 1) pe_int) (fun _ _ => rfl)))
      (pss_one (ps_ret (pe_op op_adS (pe_op op_adS (pe_slice sl_str (pv 0) po_none (po_some (pv 3))) (pv 4)) (pe_slice sl_str (pv 0) (po_some (pv 3)) po_none))))))), ?_⟩
    have hz : ∃ z : Int, spot % ((a.length : Int) + 1) = z := ⟨_, rfl⟩
    obtain ⟨z, ez⟩ := hz
    have ha0 := ha.1
    refine q_asg (v := .int z) (ev_mod (i := spot) (j := (a.length : Int) + 1) (ev_int (ev_var rfl)) (ev_add (ev_lnS (ev_var rfl) (by omega) rfl) ev_c) (by omega) ez) fun H1 e1 => ?_
    have ha1 := ha.1
    have hs1 : ∀ x ∈ a.map (fun c => [c]), Sm 1000 x := fun x hx => by
      obtain ⟨c, hc, rfl⟩ := List.mem_map.mp hx
      exact ⟨by show 1 ≤ 1000; decide, fun d hd => by
        have : d = c := by simpa using hd
        rw [this]
        exact ha.2 c hc⟩
    have hs2 : (a.map fun c => [c]).length ≤ 1000 := by rw [List.length_map]; omega
    have hm : (a.map fun c => [c]).map tx = a.map fun c => tx [c] := by
      rw [List.map_map]
      rfl
    refine q_when (et_test (ev_lt (i := kind) (j := 6) (ev_var rfl) ev_c)) (fun hb H2 e2 => s_retG (eg_ix (n := 6) (k := kind.toNat) (egl_lst (egs_cons (eg_v ev_c (.inr (.inl rfl))) (egs_cons (eg_v ev_c (.inr (.inr (.inl rfl)))) (egs_cons (eg_v ev_c (.inr (.inr (.inr (.inl rfl))))) (egs_cons (eg_L (xs := []) (el_lst ea_nil (by decide)) (by decide) (by simp)) (egs_cons (eg_L (xs := a.map fun c => [c]) (hm ▸ el_sta (fun c => tx [c]) (ev_var rfl) (by omega) fun c H8 e8 hc => ev_var rfl) hs2 hs1) (egs_cons (eg_U (xs := a.map fun c => [c]) (eu_tupOf (hm ▸ el_sta (fun c => tx [c]) (ev_var rfl) (by omega) fun c H8 e8 hc => ev_var rfl)) hs2 hs1) egs_nil)))))) (by decide)) (fun H3 e3 => ev_is (ev_var rfl) (by congr 1; omega)) ?_) fun v H3 e3 g => k v H3 (e1.trans (e2.trans e3)) g) (fun hb H2 e2 => ?_)
    · have := of_decide_eq_true hb
      omega
    have h6 : ¬ kind < 6 := of_decide_eq_false hb
    obtain ⟨c, hc, hc128⟩ := sign_at ⟨(kind - 6).toNat, by omega⟩
    refine q_asg (v := tx [c]) (ev_ixN (xs := signsL.map tx) (k := (kind - 6).toNat) (el_lst (ea_cons ev_tx (ea_cons ev_tx (ea_cons ev_tx (ea_cons ev_tx (ea_cons ev_tx (ea_cons ev_tx (ea_cons ev_tx (ea_cons ev_tx (ea_cons ev_tx (ea_cons ev_tx ea_nil)))))))))) (by decide)) (fun H3 e3 => ev_is (ev_sub (i := kind) (ev_var rfl) ev_c) (by congr 1; omega)) (by rw [List.getElem?_map, hc]; rfl)) fun H3 e3 => ?_
    exact s_retG (eg_B (n := 400 + 1 + 400) (evB_ad (evB_ad (evB_sl (evB_v (n := 400) (ev_var rfl) ha) eo_none (eo_some (ev_var rfl)) (by decide)) (evB_v (n := 1) (ev_var rfl) ⟨Nat.le_refl 1, fun d hd => by
      have : d = c := by simpa using hd
      omega⟩) (by decide)) (evB_sl (evB_v (n := 400) (ev_var rfl) ha) (eo_some (ev_var rfl)) eo_none (by decide)) (by decide)) (by decide)) fun v H4 e4 g => k v H4 (e1.trans (e2.trans (e3.trans e4))) g
theorem sc__law_odd : FnScope ["name", "kind", "spot", "letter", "at", "other", "odd"] ["name", "kind", "spot", "letter"] (defScope (top 68)) := ⟨rfl, rfl, rfl, by decide +kernel, rfl, by decide +kernel, by decide +kernel⟩
theorem ok__law_odd {P : Program} {w : World} {K : PySem.W.Frag} {mg : Str → Option Value} {base : Heap} (T : Tp w K mg) : DefOk P w K mg base CX0 "_law_odd" 1 ["name", "kind", "spot", "letter"] (spOdd) := by
  refine mkDef0 (f := He.fAd K ("_law_odd", none)) (T.df 36 _ rfl) (T.gg 36 _ rfl) sc__law_odd (fun vs H Q E h => ?_) (fun _ _ _ _ _ _ us hl => match us, hl with | [_, _, _, _], _ => rfl) (fun cdv A outer s H vs Q E hr h => ?_)
  · obtain ⟨nm, kind, spot, letter, rfl, _⟩ := h
    rfl
  · obtain ⟨nm, kind, spot, letter, rfl, hnm, hk, hlt, k⟩ := h
    refine ⟨_, (pss_cons (ps_set (i := 4) sc__law_odd.nd rfl (by first | exact Or.inl rfl | exact Or.inr rfl) (pe_op op_mod (pe_callTy cl_int rfl T.b_int (by decide +kernel) (pa_cons (pv 2) pa_nil)) (pe_callB cl_lnS rfl T.b_len (by decide +kernel) (pa_cons (pv 0) pa_nil))))
      (pss_cons (ps_set (i := 5) sc__law_odd.nd rfl (by first | exact Or.inl rfl | exact Or.inr rfl) (pe_ix ix_str (pe_tx (l := [97, 98, 99, 100, 101, 102, 103, 104, 105, 106, 107, 108, 109, 110, 111, 112, 113, 114, 115, 116, 117, 118, 119, 120, 121, 122]) (by decide +kernel)) (pv 3) (fun _ _ => rfl)))
      (pss_cons (ps_set (i := 6) sc__law_odd.nd rfl (by first | exact Or.inl rfl | exact Or.inr rfl) (pe_lst (pa_cons (pv 0) (pa_cons (pe_op op_adS (pv 0) (pe_tx (l := [115]) (by decide +kernel))) (pa_cons (pe_slice sl_str (pv 0) po_none (po_some (pe_op op_sub (pe_callB cl_lnS rfl T.b_len (by decide +kernel) (pa_cons (pv 0) pa_nil)) pe_int))) (pa_cons (pe_slice sl_str (pv 0) (po_some pe_int) po_none) (pa_cons (pe_op op_adS (pe_m0 PySem.F.slot_str_upper PySem.F.type_str_upper m_upp (pe_slice sl_str (pv 0) po_none (po_some pe_int))) (pe_slice sl_str (pv 0) (po_some pe_int) po_none)) (pa_cons (pe_op op_adS (pv 0) (pe_tx (l := [32]) (by decide +kernel))) (pa_cons (pe_op op_adS (pe_tx (l := [32]) (by decide +kernel)) (pv 0)) (pa_cons (pe_tx (l := []) (by decide +kernel)) pa_nil))))))))))
      (pss_cons (ps_set (i := 6) sc__law_odd.nd rfl (by first | exact Or.inl rfl | exact Or.inr rfl) (pe_op op_cat (pv 6) (pe_lst (pa_cons (pe_op op_adS (pe_op op_adS (pe_slice sl_str (pv 0) po_none (po_some (pv 4))) (pv 5)) (pe_slice sl_str (pv 0) (po_some (pe_op op_add (pv 4) pe_int)) po_none)) (pa_cons (pe_op op_adS (pe_op op_adS (pe_slice sl_str (pv 0) po_none (po_some (pv 4))) (pv 5)) (pe_slice sl_str (pv 0) (po_some (pv 4)) po_none)) (pa_cons (pe_tx (l := [109, 105, 114, 114, 111, 114]) (by decide +kernel)) (pa_cons (pe_m0 PySem.F.slot_str_upper PySem.F.type_str_upper m_upp (pv 0)) pa_nil)))))))
      (pss_one (ps_ret (pe_ix (ixL K) (pe_op op_cat (pv 6) (pe_lst (pa_cons pe_non (pa_cons pe_int (pa_cons pe_bl (pa_cons (pe_lst (pa_cons (pv 0) pa_nil)) (pa_cons (pe_tup (pa_cons (pv 0) pa_nil)) pa_nil))))))) (pv 1) (fun _ _ => rfl)))))))), ?_⟩
    obtain ⟨hl1, hl2, hl4⟩ := name_facts nm hnm
    have hsm : Sm 20 nm := ⟨hl2, fun c hc => by simpa using List.all_eq_true.mp hl4 c hc⟩
    have hl3 : nm.length ≤ 20 ∧ nm.all (· < 128) = true := ⟨hl2, hl4⟩
    have hone : ∀ x ∈ ([nm] : List (List Nat)), Sm 1000 x := fun x hx => by
      have : x = nm := by simpa using hx
      subst this
      exact hsm.up (by decide)
    have hz : ∃ z : Int, spot % (nm.length : Int) = z := ⟨_, rfl⟩
    obtain ⟨z, ez⟩ := hz
    refine q_asg (v := .int z) (ev_mod (i := spot) (j := (nm.length : Int)) (ev_int (ev_var rfl)) (ev_lnS (ev_var rfl) (by omega) rfl) (by omega) ez) fun H1 e1 => ?_
    have hc : ∃ c, ([97, 98, 99, 100, 101, 102, 103, 104, 105, 106, 107, 108, 109, 110, 111, 112, 113, 114, 115, 116, 117, 118, 119, 120, 121, 122] : List Nat)[letter.toNat]? = some c := by
      have : letter.toNat < ([97, 98, 99, 100, 101, 102, 103, 104, 105, 106, 107, 108, 109, 110, 111, 112, 113, 114, 115, 116, 117, 118, 119, 120, 121, 122] : List Nat).length := by show _ < 26; omega
      exact ⟨_, List.getElem?_eq_getElem this⟩
    obtain ⟨c, hc⟩ := hc
    have hlet : Sm 1 [c] := ⟨Nat.le_refl 1, fun d hd => by
      have hd2 : d = c := by simpa using hd
      have hm := List.mem_of_getElem? hc
      rw [hd2]
      exact alpha_lt c hm⟩
    refine q_asg (v := tx [c]) (ev_ixS (k := letter.toNat) ev_tx (ev_is (ev_var rfl) (by congr 1; omega)) (by decide) hc) fun H2 e2 => ?_
    refine q_asgGL (n := 8) (egl_lst (egs_cons (eg_B (evB_v (n := 20) (ev_var rfl) hsm) (by decide)) (egs_cons (eg_B (evB_ad (evB_v (n := 20) (ev_var rfl) hsm) (evB_v (n := 1) ev_tx (by decide)) (by decide)) (by decide)) (egs_cons (eg_B (evB_sl (evB_v (n := 20) (ev_var rfl) hsm) eo_none (eo_some (ev_sub (ev_lnS (ev_var rfl) (by omega) rfl) ev_c)) (by decide)) (by decide)) (egs_cons (eg_B (evB_sl (evB_v (n := 20) (ev_var rfl) hsm) (eo_some ev_c) eo_none (by decide)) (by decide)) (egs_cons (eg_B (evB_ad (evB_upp (evA_sl (evA_v (ev_var rfl) hl3) eo_none (eo_some ev_c))) (evB_sl (evB_v (n := 20) (ev_var rfl) hsm) (eo_some ev_c) eo_none (by decide)) (by decide)) (by decide)) (egs_cons (eg_B (evB_ad (evB_v (n := 20) (ev_var rfl) hsm) (evB_v (n := 1) ev_tx (by decide)) (by decide)) (by decide)) (egs_cons (eg_B (evB_ad (evB_v (n := 1) ev_tx (by decide)) (evB_v (n := 20) (ev_var rfl) hsm) (by decide)) (by decide)) (egs_cons (eg_B (evB_v (n := 0) ev_tx (by decide)) (by decide)) egs_nil)))))))) (by decide)) fun p vs H3 hp e3 h3 hvl hv => ?_
    refine q_asgGL (n := 8 + 4) (egl_catV (ev_var rfl) h3 hvl hv (egl_lst (egs_cons (eg_B (evB_ad (evB_ad (evB_sl (evB_v (n := 20) (ev_var rfl) hsm) eo_none (eo_some (ev_var rfl)) (by decide)) (evB_v (n := 1) (ev_var rfl) hlet) (by decide)) (evB_sl (evB_v (n := 20) (ev_var rfl) hsm) (eo_some (ev_add (ev_var rfl) ev_c)) eo_none (by decide)) (by decide)) (by decide)) (egs_cons (eg_B (evB_ad (evB_ad (evB_sl (evB_v (n := 20) (ev_var rfl) hsm) eo_none (eo_some (ev_var rfl)) (by decide)) (evB_v (n := 1) (ev_var rfl) hlet) (by decide)) (evB_sl (evB_v (n := 20) (ev_var rfl) hsm) (eo_some (ev_var rfl)) eo_none (by decide)) (by decide)) (by decide)) (egs_cons (eg_B (evB_v (n := 6) ev_tx (by decide)) (by decide)) (egs_cons (eg_B (evB_upp (evA_v (ev_var rfl) hl3)) (by decide)) egs_nil)))) (by decide)) (by decide)) fun q ws H4 hq e4 h4 hwl hw => ?_
    exact s_retG (eg_ix (n := 8 + 4 + 5) (k := kind.toNat) (egl_catV (ev_var rfl) h4 hwl hw (egl_lst (egs_cons (eg_v ev_c (.inr (.inl rfl))) (egs_cons (eg_v ev_c (.inr (.inr (.inl rfl)))) (egs_cons (eg_v ev_c (.inr (.inr (.inr (.inl rfl))))) (egs_cons (eg_L (xs := [nm]) (el_lst (ea_cons (ev_var rfl) ea_nil) (by simp)) (by simp) hone) (egs_cons (eg_U (xs := [nm]) (Evl.eu_tup (ea_cons (ev_var rfl) ea_nil) (by simp)) (by simp) hone) egs_nil))))) (by decide)) (by decide)) (fun H5 e5 => ev_is (ev_var rfl) (by congr 1; omega)) (by omega)) fun v H5 e5 g => k v H5 (e1.trans (e2.trans (e3.trans (e4.trans e5)))) g
end K84
set_option Elab.async false
set_option linter.all false
set_option maxRecDepth 100000
set_option maxHeartbeats 4000000
/-! K84I: the program's refusals and its answer. -/
namespace K84
open PySem PySem.Spec PyProof.Rows L2 Kb
open SX (S)
open Evl (Ev EvL EvU EvT EvA EvO Ex RetV RetL SpV SpL ev_var ev_c s_ret s_retL s_asg s_asgL q_asg q_asgL q_when s_when s_if q_if et_or et_not et_and et_B et_test ev_andV ev_notV sq_of eo_some eo_none SpV ev_call ea_cons ea_nil q_ifAsg s_ifAsg q_while s_app q_app el_lst ev_is ex_l)
/-! ### what the program computes -/
def names13 : List (List Nat) := [[109, 105, 114, 114, 111, 114, 101, 100], [102, 111, 117, 110, 100], [98, 111, 114, 100, 101, 114, 101, 100], [109, 105, 114, 114, 111, 114, 115, 116, 97, 114, 116], [98, 97, 108, 97, 110, 99, 101, 100], [101, 118, 101, 110, 108, 121], [99, 111, 112, 105, 101, 100], [116, 104, 105, 114, 100, 115], [112, 111, 119, 101, 114], [98, 97, 99, 107, 119, 97, 114, 100, 115], [100, 111, 117, 98, 108, 105, 110, 103], [116, 119, 111, 109, 105, 114, 114, 111, 114, 115], [101, 118, 101, 110, 109, 105, 114, 114, 111, 114, 115]]
def testB (nm a : List Nat) : Bool :=
  if nm = [109, 105, 114, 114, 111, 114, 101, 100] then mirB a else
  if nm = [102, 111, 117, 110, 100] then fouB a else
  if nm = [98, 111, 114, 100, 101, 114, 101, 100] then borB a else
  if nm = [109, 105, 114, 114, 111, 114, 115, 116, 97, 114, 116] then mstB a else
  if nm = [98, 97, 108, 97, 110, 99, 101, 100] then balB 0 a else
  if nm = [101, 118, 101, 110, 108, 121] then eveB a else
  if nm = [99, 111, 112, 105, 101, 100] then copB a else
  if nm = [116, 104, 105, 114, 100, 115] then thiB a else
  if nm = [112, 111, 119, 101, 114] then powB a.length else
  if nm = [98, 97, 99, 107, 119, 97, 114, 100, 115] then true else
  if nm = [100, 111, 117, 98, 108, 105, 110, 103] then true else
  if nm = [116, 119, 111, 109, 105, 114, 114, 111, 114, 115] then twoB a else
  if nm = [101, 118, 101, 110, 109, 105, 114, 114, 111, 114, 115] then evmB a else
  true
def testN (nm : List Nat) : Str :=
  if nm = [109, 105, 114, 114, 111, 114, 101, 100] then "is_mirrored" else
  if nm = [102, 111, 117, 110, 100] then "is_found" else
  if nm = [98, 111, 114, 100, 101, 114, 101, 100] then "is_bordered" else
  if nm = [109, 105, 114, 114, 111, 114, 115, 116, 97, 114, 116] then "is_mirrorstart" else
  if nm = [98, 97, 108, 97, 110, 99, 101, 100] then "is_balanced" else
  if nm = [101, 118, 101, 110, 108, 121] then "is_evenly" else
  if nm = [99, 111, 112, 105, 101, 100] then "is_copied" else
  if nm = [116, 104, 105, 114, 100, 115] then "is_thirds" else
  if nm = [112, 111, 119, 101, 114] then "is_power" else
  if nm = [98, 97, 99, 107, 119, 97, 114, 100, 115] then "is_any" else
  if nm = [100, 111, 117, 98, 108, 105, 110, 103] then "is_any" else
  if nm = [116, 119, 111, 109, 105, 114, 114, 111, 114, 115] then "is_two_mirrors" else
  if nm = [101, 118, 101, 110, 109, 105, 114, 114, 111, 114, 115] then "is_even_mirrors" else
  ""
def ends2 : List (List Nat) := [[99, 104, 97, 110, 116], [114, 111, 117, 110, 100, 115]]
def gues2 : List (List Nat) := [[116, 119, 111, 109, 105, 114, 114, 111, 114, 115], [101, 118, 101, 110, 109, 105, 114, 114, 111, 114, 115]]
def okT (nm a : List Nat) : Bool := (decide (a.length ≤ 400) && a.all fun c => decide (c ∈ [97, 98, 99])) && !(decide (nm ∈ gues2) && decide (40 < a.length))
def plB (nm a : List Nat) : List Nat := if nm ∈ ends2 then [101, 110, 100, 108, 101, 115, 115] else if testB nm a then [121, 101, 115] else [110, 111]
theorem n13_of : ∀ nm ∈ names15, nm ∉ ends2 → nm ∈ names13 := by decide +kernel
abbrev CN (K : PySem.W.Frag) : Addr := He.ga K "NoSuchProgram"
abbrev CB (K : PySem.W.Frag) : Addr := He.ga K "BadText"
/-! ### the makers -/
def spInit (K : PySem.W.Frag) (f : Str) : Sp := fun vs H Q _ => ∃ (a C : Addr) (y : V), vs = [.ref a, y] ∧ OexC K C ∧ PySem.W.findIn K (.ref C) f = some none ∧ H a = some (exo a C none) ∧
  ∀ dx, H dx = none → dx ≠ a → Q .non (upd (upd H dx (exd dx [(f, y)])) a (exo a C (some dx)))
theorem mk_read {K : PySem.W.Frag} {C : Addr} {f : Str} {v : V} {ta : TA} {σ : L2.St} {H : Hp} {QX : XK} (T : OexC K C) (hno : PySem.W.findIn K (.ref C) f = some none) (ha : EvA ta σ H [v]) (k : ∀ d H2, Ex H H2 → H2 d = some (.xd [(f, v)]) → QX (.ref C) (some d) H2) :
    tMkO C (spInit K f) [] ta σ H QX := ha H (Ex.refl H) _ fun H1 e1 => ⟨by show 1 ≤ 1000; decide, fun a hn => ⟨a, C, v, rfl, T, hno, upd_same, fun dx h1 h2 => by
      have hx : H1 dx = none := by rw [upd_ne h2] at h1; exact h1
      refine ⟨rfl, dx, [(f, v)], upd_same, by rw [upd_ne h2, upd_same], hx, k dx _ (fun b o hb => ?_) upd_same⟩
      have hb1 := e1 b o hb
      have n1 : b ≠ dx := fun z => by rw [z, hx] at hb1; cases hb1
      have n2 : b ≠ a := fun z => by rw [z, hn] at hb1; cases hb1
      rw [upd_ne n1, del_ne n2, upd_ne n2, upd_ne n1, upd_ne n2]
      exact hb1⟩⟩
theorem sc_NoSuchProgram : FnScope ["self", "name"] ["self", "name"] (defScope (inClass (top 20) 0)) := ⟨rfl, rfl, rfl, by decide +kernel, rfl, by decide +kernel, by decide +kernel⟩
theorem ini_NoSuchProgram {P : Program} {w : World} {K : PySem.W.Frag} {mg : Str → Option Value} {base : Heap} (T : Tp w K mg) : ∃ fd, FnOk P w K mg base CX0 1 (He.ma K (He.ga K "NoSuchProgram") "__init__") fd ["self", "name"] (spInit K "name") ∧ Binds K fd ["self", "name"] [] := by
  obtain ⟨fd, F⟩ := T.df 38 _ rfl
  refine ⟨fd, F.ok sc_NoSuchProgram (fun vs H Q E h => ?_) (fun cdv A outer s H vs Q E hr h => ?_), FunD.bindsN F (fun _ _ _ _ _ _ us hl => match us, hl with | [_, _], _ => rfl)⟩
  · obtain ⟨_, _, _, rfl, _⟩ := h
    rfl
  · obtain ⟨a, C, y, rfl, hT, hno, ha, k⟩ := h
    exact ⟨_, pss_one (ps_ost (pv 0) (pv 1)), ⟨_, rfl, _, rfl, a, C, rfl, hT, hno, .inl ⟨ha, k⟩⟩⟩
theorem sc_BadText : FnScope ["self", "text"] ["self", "text"] (defScope (inClass (top 4) 0)) := ⟨rfl, rfl, rfl, by decide +kernel, rfl, by decide +kernel, by decide +kernel⟩
theorem ini_BadText {P : Program} {w : World} {K : PySem.W.Frag} {mg : Str → Option Value} {base : Heap} (T : Tp w K mg) : ∃ fd, FnOk P w K mg base CX0 1 (He.ma K (He.ga K "BadText") "__init__") fd ["self", "text"] (spInit K "text") ∧ Binds K fd ["self", "text"] [] := by
  obtain ⟨fd, F⟩ := T.df 39 _ rfl
  refine ⟨fd, F.ok sc_BadText (fun vs H Q E h => ?_) (fun cdv A outer s H vs Q E hr h => ?_), FunD.bindsN F (fun _ _ _ _ _ _ us hl => match us, hl with | [_, _], _ => rfl)⟩
  · obtain ⟨_, _, _, rfl, _⟩ := h
    rfl
  · obtain ⟨a, C, y, rfl, hT, hno, ha, k⟩ := h
    exact ⟨_, pss_one (ps_ost (pv 0) (pv 1)), ⟨_, rfl, _, rfl, a, C, rfl, hT, hno, .inl ⟨ha, k⟩⟩⟩
/-! ### a raising def that is called by its name -/
theorem pe_DX {X : Cx} {W : WX} {x : Str} {j k : Nat} {ps : List Str} {sp : Sp} {q pos : Pos} {e : Expr} {es : List Expr} {t : TA} (D : DefOk X.prog X.w X.K X.mg X.base (L2.CX X.prog X.w) x j ps sp) (hj : j ≤ k) (hr : Room k X.A) (tk : L2.Takes X W) (ha : PA X (e :: es) t) (hg : Gl X x := by rfl)
    (hdb : (x == ("__debug__" : Str)) = false := by decide)
    (he : starEach (e :: es) X.env = (false, eval e X.env) :: starEach es X.env := by rfl)
    (hpl : (backTo pos (starEach es X.env)).any (·.1) = false := by rfl) :
    PE X (.Call (.Name x q) (e :: es) [] pos) (tCallS sp (WE W) t) := by
  obtain ⟨f, fd, h1, h2, h3, h4⟩ := D.ex
  exact pe_callS h4 (hr.mono hj) hg h1 h2 h3 (fun σ => L2.passAt tk σ) ha hdb he hpl
theorem q_dropX {sp : Sp} {W : WX} {ta : TA} {σ : L2.St} {H : Hp} {vs : List V} {D : Ends} {tz : TS} (ha : EvA ta σ H vs) (h : ∀ H1, Ex H H1 → sp vs H1 (fun _ H2 => tz D σ H2) (WE W σ)) : tSeq (tDrop (tCallS sp (WE W) ta)) tz D σ H :=
  ha H (Ex.refl H) _ fun H1 e1 => h H1 e1
/-! ### the program -/
/-- no name of the library -/
def NmBad (K : PySem.W.Frag) (H : Hp) (v : V) : Prop := (∃ a : List Nat, v = tx a ∧ a ∉ names15) ∨ IsA K H v "str" false
def TxBad (K : PySem.W.Frag) (H : Hp) (nm : List Nat) (v : V) : Prop := (∃ a : List Nat, v = tx a ∧ a.length ≤ 1000 ∧ okT nm a = false) ∨ IsA K H v "str" false
theorem NmBad.mono {K : PySem.W.Frag} {H H' : Hp} {v : V} (h : NmBad K H v) (e : Ex H H') : NmBad K H' v := h.imp id fun z => z.mono e
theorem TxBad.mono {K : PySem.W.Frag} {H H' : Hp} {nm : List Nat} {v : V} (h : TxBad K H nm v) (e : Ex H H') : TxBad K H' nm v := h.imp id fun z => z.mono e
def OutX (H : Hp) (E : XK) (C : Addr) (f : Str) (v : V) : Prop := ∀ d H2, Ex H H2 → H2 d = some (.xd [(f, v)]) → E (.ref C) (some d) H2
theorem OutX.mono {H H' : Hp} {E : XK} {C : Addr} {f : Str} {v : V} (h : OutX H E C f v) (e : Ex H H') : OutX H' E C f v := fun d H2 e2 => h d H2 (e.trans e2)
def spCN (K : PySem.W.Frag) : Sp := fun vs H Q E => ∃ v, vs = [v] ∧ ((NmBad K H v ∧ OutX H E (CN K) "name" v) ∨ (∃ nm, v = tx nm ∧ nm ∈ names15 ∧ RetV .non H Q))
def spCA (K : PySem.W.Frag) : Sp := fun vs H Q E => ∃ v z, vs = [v, z] ∧ ((NmBad K H v ∧ OutX H E (CN K) "name" v) ∨ (∃ nm, v = tx nm ∧ nm ∈ names15 ∧ ((TxBad K H nm z ∧ OutX H E (CB K) "text" z) ∨ (∃ a, z = tx a ∧ a.length ≤ 1000 ∧ okT nm a = true ∧ RetV .non H Q))))
def spPl (K : PySem.W.Frag) : Sp := fun vs H Q E => ∃ v z, vs = [v, z] ∧ ((NmBad K H v ∧ OutX H E (CN K) "name" v) ∨ (∃ nm, v = tx nm ∧ nm ∈ names15 ∧ ((TxBad K H nm z ∧ OutX H E (CB K) "text" z) ∨ (∃ a, z = tx a ∧ a.length ≤ 1000 ∧ okT nm a = true ∧ RetV (tx (plB nm a)) H Q))))
section
variable {K : PySem.W.Frag} {σ : L2.St} {H H' : Hp} {ta tb te : TE}
theorem ev_niTx {p : Addr} {a : List Nat} {ys : List (List Nat)} (ha : Ev ta σ H (tx a)) (hb : Ev tb σ H (.ref p)) (hs : SqT K H p (ys.map tx)) : Ev (tOp (rIn K true) ta tb) σ H (.bl (!decide (a ∈ ys))) := by
  have h := Evl.ev_op ha hb (Evl.rv_niT (x := tx a) hs rfl (flat_tx ys))
  rw [inV_tx] at h
  exact h
end
theorem sc_check_name : FnScope ["name"] ["name"] (defScope (top 26)) := ⟨rfl, rfl, rfl, by decide +kernel, rfl, by decide +kernel, by decide +kernel⟩
theorem ok_check_name {P : Program} {w : World} {K : PySem.W.Frag} {mg : Str → Option Value} {base : Heap} (T : Tp w K mg) : DefOk P w K mg base (L2.CX P w) "check_name" 3 ["name"] (spCN K) := by
  refine mkDefX (f := He.fAd K ("check_name", none)) (T.df 1 _ rfl) (T.gg 1 _ rfl) sc_check_name (fun vs H Q E h => ?_) (fun _ _ _ _ _ _ us hl => match us, hl with | [_], _ => rfl) (fun cdv A outer s H vs Q E hr h => ?_)
  · obtain ⟨_, rfl, _⟩ := h
    rfl
  · obtain ⟨fd, I1, bI⟩ := ini_NoSuchProgram (P := P) (base := base) T
    obtain ⟨v, rfl, h⟩ := h
    refine ⟨_, (pss_one (ps_if (PW.pt (pw_or (pt_not (pt_val (pe_callB (isiK K) rfl T.b_isinstance (by decide +kernel) (pa_cons (pv 0) (pa_cons (pe_bltn (v := .ty "str") (u := .type "str") rfl T.b_str (by decide +kernel) rfl) pa_nil))))) (pw_or1 (pt_cmpR (ninSeq K) (pv 0) (pe_glob (v := .ref (He.ga K "NAMES")) rfl (T.gg 38 _ rfl) rfl) (by rfl))))) (pss_one (ps_raise (W := fun cls d _ H => E cls d H) rfl (takes_of rfl rfl rfl rfl) (pmk_oex T.cN.oex T.cN.ini T.cN.fun_ I1 (hr.mono (by decide)) bI .nil pass0 rfl (T.gg 42 _ rfl) (pa_cons (pv 0) pa_nil)))) pss_nil)), ?_⟩
    rcases h with ⟨hb, k⟩ | ⟨nm, rfl, hn, k⟩
    · refine s_when (b := true) ?_ (fun _ H1 e1 => mk_read T.cN.oex T.cN.nof (ea_cons (ev_var rfl) ea_nil) (k.mono e1)) (fun z => by cases z)
      rcases hb with ⟨a, rfl, hn⟩ | hb
      · refine Evl.et_is (et_or (et_not (et_B (ev_isi (ev_var rfl) (isA_str (k := true) _ "str" (by decide +kernel))))) fun _ => et_test (ev_niTx (ys := names15) (ev_var rfl) ev_c (T.tN _))) ?_
        rw [decide_eq_false hn]
        rfl
      · exact et_or (b := false) (et_not (et_B (ev_isi (ev_var rfl) hb))) fun z => (by cases z)
    · refine s_when (b := false) ?_ (fun z => by cases z) (fun _ H1 e1 => k H1 e1)
      refine Evl.et_is (et_or (et_not (et_B (ev_isi (ev_var rfl) (isA_str (k := true) _ "str" (by decide +kernel))))) fun _ => et_test (ev_niTx (ys := names15) (ev_var rfl) ev_c (T.tN _))) ?_
      rw [decide_eq_true hn]
      rfl
theorem sc_check_asked : FnScope ["name", "text"] ["name", "text"] (defScope (top 45)) := ⟨rfl, rfl, rfl, by decide +kernel, rfl, by decide +kernel, by decide +kernel⟩
theorem ok_check_asked {P : Program} {w : World} {K : PySem.W.Frag} {mg : Str → Option Value} {base : Heap} (T : Tp w K mg) : DefOk P w K mg base (L2.CX P w) "check_asked" 4 ["name", "text"] (spCA K) := by
  have D_check_name := ok_check_name (P := P) (base := base) T
  have D_is_text := ok_is_text (P := P) (base := base) T
  refine mkDefX (f := He.fAd K ("check_asked", none)) (T.df 14 _ rfl) (T.gg 14 _ rfl) sc_check_asked (fun vs H Q E h => ?_) (fun _ _ _ _ _ _ us hl => match us, hl with | [_, _], _ => rfl) (fun cdv A outer s H vs Q E hr h => ?_)
  · obtain ⟨_, _, rfl, _⟩ := h
    rfl
  · obtain ⟨fd, I1, bI⟩ := ini_BadText (P := P) (base := base) T
    obtain ⟨v, z, rfl, h⟩ := h
    refine ⟨_, (pss_cons (ps_expr (pe_DX (W := fun cls d _ H => E cls d H) D_check_name (by decide) hr (takes_of rfl rfl rfl rfl) (pa_cons (pv 0) pa_nil))) (pss_one (ps_if (PW.pt (pw_or (pt_not (pt_val (pe_D D_is_text (by decide) hr (pa_cons (pe_globS (l := [97, 98, 99]) rfl T.sL (by decide +kernel)) (pa_cons (pv 1) pa_nil))))) (pw_or1 (PW.pt (pw_and (pt_cmpR (inSeq K) (pv 0) (pe_glob (v := .ref (He.ga K "GUESSING")) rfl (T.gg 40 _ rfl) rfl) (by rfl)) (pw_and1 (pt_cmpR op_gt (pe_callB cl_lnS rfl T.b_len (by decide +kernel) (pa_cons (pv 1) pa_nil)) (pe_globI rfl T.iG) (nomark _)))))))) (pss_one (ps_raise (W := fun cls d _ H => E cls d H) rfl (takes_of rfl rfl rfl rfl) (pmk_oex T.cB.oex T.cB.ini T.cB.fun_ I1 (hr.mono (by decide)) bI .nil pass0 rfl (T.gg 43 _ rfl) (pa_cons (pv 1) pa_nil)))) pss_nil))), ?_⟩
    rcases h with ⟨hb, k⟩ | ⟨nm, rfl, hn, h⟩
    · exact q_dropX (ea_cons (ev_var rfl) ea_nil) fun H1 e1 => ⟨v, rfl, .inl ⟨hb.mono e1, k.mono e1⟩⟩
    refine q_dropX (ea_cons (ev_var rfl) ea_nil) fun H1 e1 => ⟨_, rfl, .inr ⟨nm, rfl, hn, fun H2 e2 => ?_⟩⟩
    have e12 := e1.trans e2
    have tt : ∀ a : List Nat, a.length ≤ 1000 → SpV (spIsText K) [tx [97, 98, 99], tx a] H2 (.bl (decide (a.length ≤ 400) && a.all fun c => decide (c ∈ [97, 98, 99]))) := fun a ha H3 e3 Q2 q2 E2 => ⟨_, _, rfl, .inl ⟨a, rfl, ha, fun H4 e4 => q2 H4 e4⟩⟩
    have test : ∀ a : List Nat, a.length ≤ 1000 → z = tx a → EvT (tOr (tNot (tB (tCall (spIsText K) [] E0 (tCons (tC (tx [97, 98, 99])) (tCons (tVar 1) tNil))))) (tAnd (tTest (tOp (rIn K false) (tVar 0) (tC (.ref (He.ga K "GUESSING"))))) (tTest (tOp (rI0 fun i j => .bl (decide (j < i))) (tCB rLnS (tCons (tVar 1) tNil)) (tC (.int 40)))))) ([some (tx nm), some z] : L2.St) H2 (!okT nm a) := fun a ha hz => by
      subst hz
      refine Evl.et_is (et_or (et_not (et_B (ev_call (ea_cons ev_tx (ea_cons (ev_var rfl) ea_nil)) (tt a ha)))) fun _ => et_and (et_test (ev_inTxT (ys := gues2) (ev_var rfl) ev_c (T.tG _))) fun _ => et_test (ev_gt (i := (a.length : Int)) (j := 40) (ev_lnS (ev_var rfl) (by omega) rfl) ev_c)) ?_
      unfold okT
      have e40 : decide ((40 : Int) < (a.length : Int)) = decide (40 < a.length) := decide_eq_decide.mpr (by omega)
      rw [e40]
      cases (decide (a.length ≤ 400) && a.all fun c => decide (c ∈ [97, 98, 99])) <;> cases (decide (nm ∈ gues2) && decide (40 < a.length)) <;> rfl
    rcases h with ⟨hb, k⟩ | ⟨a, rfl, ha, ho, k⟩
    · refine s_when (b := true) ?_ (fun _ H3 e3 => mk_read T.cB.oex T.cB.nof (ea_cons (ev_var rfl) ea_nil) (k.mono (e12.trans e3))) (fun z => by cases z)
      rcases hb with ⟨a, rfl, ha, ho⟩ | hb
      · refine Evl.et_is (test a ha rfl) ?_
        rw [ho]
        rfl
      · refine et_or (b := false) (a := true) (et_not (a := false) (et_B (ev_call (ea_cons ev_tx (ea_cons (ev_var rfl) ea_nil)) (fun H3 e3 Q2 q2 E2 => ⟨_, _, rfl, .inr ⟨hb.mono (e12.trans e3), fun H4 e4 => q2 H4 e4⟩⟩)))) fun z => (by cases z)
    · refine s_when (b := false) ?_ (fun z => by cases z) (fun _ H3 e3 => k H3 (e12.trans e3))
      refine Evl.et_is (test a ha rfl) ?_
      rw [ho]
      rfl
theorem DefOk.held {P : Program} {w : World} {K : PySem.W.Frag} {mg : Str → Option Value} {base : Heap} {x : Str} {j k : Nat} {ps : List Str} {sp : Sp} (D : DefOk P w K mg base CX0 x j ps sp) (hj : j ≤ k) (hm : mg x = some (.ref (He.ga K x))) : Held P w K mg base k (He.ga K x) sp := by
  obtain ⟨f, fd, h1, h2, h3, h4⟩ := D.ex
  rw [hm] at h1
  obtain rfl : He.ga K x = f := Value.ref.inj (Option.some.inj h1)
  exact ⟨fd, ps, h4.mono hj, h2, h3⟩
theorem key_tx {K : PySem.W.Frag} {w : World} {p : Addr} {x : Str} {l : List Nat} {v : V} (e : x = S l) (h : KDct K w p x v) : KDct K w p (S l) v := by
  subst e
  exact h
theorem tests_held {P : Program} {w : World} {K : PySem.W.Frag} {mg : Str → Option Value} {base : Heap} (T : Tp w K mg) (nm : List Nat) (h : nm ∈ names13) : Held P w K mg base 2 (He.ga K (testN nm)) (spT (testB nm)) ∧ KDct K w (He.ga K "TESTS") (S nm) (.ref (He.ga K (testN nm))) := by
  unfold names13 at h
  simp only [List.mem_cons, List.not_mem_nil, or_false] at h
  rcases h with rfl | rfl | rfl | rfl | rfl | rfl | rfl | rfl | rfl | rfl | rfl | rfl | rfl
  · exact ⟨DefOk.held (ok_is_mirrored (P := P) (base := base) T) (by decide) (T.gg 2 _ rfl), key_tx (l := [109, 105, 114, 114, 111, 114, 101, 100]) (by decide +kernel) (T.tT ("mirrored", "is_mirrored") (by unfold testsV; simp))⟩
  · exact ⟨DefOk.held (ok_is_found (P := P) (base := base) T) (by decide) (T.gg 3 _ rfl), key_tx (l := [102, 111, 117, 110, 100]) (by decide +kernel) (T.tT ("found", "is_found") (by unfold testsV; simp))⟩
  · exact ⟨DefOk.held (ok_is_bordered (P := P) (base := base) T) (by decide) (T.gg 4 _ rfl), key_tx (l := [98, 111, 114, 100, 101, 114, 101, 100]) (by decide +kernel) (T.tT ("bordered", "is_bordered") (by unfold testsV; simp))⟩
  · exact ⟨DefOk.held (ok_is_mirrorstart (P := P) (base := base) T) (by decide) (T.gg 5 _ rfl), key_tx (l := [109, 105, 114, 114, 111, 114, 115, 116, 97, 114, 116]) (by decide +kernel) (T.tT ("mirrorstart", "is_mirrorstart") (by unfold testsV; simp))⟩
  · exact ⟨DefOk.held (ok_is_balanced (P := P) (base := base) T) (by decide) (T.gg 6 _ rfl), key_tx (l := [98, 97, 108, 97, 110, 99, 101, 100]) (by decide +kernel) (T.tT ("balanced", "is_balanced") (by unfold testsV; simp))⟩
  · exact ⟨DefOk.held (ok_is_evenly (P := P) (base := base) T) (by decide) (T.gg 7 _ rfl), key_tx (l := [101, 118, 101, 110, 108, 121]) (by decide +kernel) (T.tT ("evenly", "is_evenly") (by unfold testsV; simp))⟩
  · exact ⟨DefOk.held (ok_is_copied (P := P) (base := base) T) (by decide) (T.gg 8 _ rfl), key_tx (l := [99, 111, 112, 105, 101, 100]) (by decide +kernel) (T.tT ("copied", "is_copied") (by unfold testsV; simp))⟩
  · exact ⟨DefOk.held (ok_is_thirds (P := P) (base := base) T) (by decide) (T.gg 9 _ rfl), key_tx (l := [116, 104, 105, 114, 100, 115]) (by decide +kernel) (T.tT ("thirds", "is_thirds") (by unfold testsV; simp))⟩
  · exact ⟨DefOk.held (ok_is_power (P := P) (base := base) T) (by decide) (T.gg 10 _ rfl), key_tx (l := [112, 111, 119, 101, 114]) (by decide +kernel) (T.tT ("power", "is_power") (by unfold testsV; simp))⟩
  · exact ⟨DefOk.held (ok_is_any (P := P) (base := base) T) (by decide) (T.gg 11 _ rfl), key_tx (l := [98, 97, 99, 107, 119, 97, 114, 100, 115]) (by decide +kernel) (T.tT ("backwards", "is_any") (by unfold testsV; simp))⟩
  · exact ⟨DefOk.held (ok_is_any (P := P) (base := base) T) (by decide) (T.gg 11 _ rfl), key_tx (l := [100, 111, 117, 98, 108, 105, 110, 103]) (by decide +kernel) (T.tT ("doubling", "is_any") (by unfold testsV; simp))⟩
  · exact ⟨DefOk.held (ok_is_two_mirrors (P := P) (base := base) T) (by decide) (T.gg 12 _ rfl), key_tx (l := [116, 119, 111, 109, 105, 114, 114, 111, 114, 115]) (by decide +kernel) (T.tT ("twomirrors", "is_two_mirrors") (by unfold testsV; simp))⟩
  · exact ⟨DefOk.held (ok_is_even_mirrors (P := P) (base := base) T) (by decide) (T.gg 13 _ rfl), key_tx (l := [101, 118, 101, 110, 109, 105, 114, 114, 111, 114, 115]) (by decide +kernel) (T.tT ("evenmirrors", "is_even_mirrors") (by unfold testsV; simp))⟩
theorem sc_plainly : FnScope ["name", "text", "test"] ["name", "text"] (defScope (top 46)) := ⟨rfl, rfl, rfl, by decide +kernel, rfl, by decide +kernel, by decide +kernel⟩
theorem ok_plainly {P : Program} {w : World} {K : PySem.W.Frag} {mg : Str → Option Value} {base : Heap} (T : Tp w K mg) : DefOk P w K mg base (L2.CX P w) "plainly" 5 ["name", "text"] (spPl K) := by
  have D_check_asked := ok_check_asked (P := P) (base := base) T
  refine mkDefX (f := He.fAd K ("plainly", none)) (T.df 15 _ rfl) (T.gg 15 _ rfl) sc_plainly (fun vs H Q E h => ?_) (fun _ _ _ _ _ _ us hl => match us, hl with | [_, _], _ => rfl) (fun cdv A outer s H vs Q E hr h => ?_)
  · obtain ⟨_, _, rfl, _⟩ := h
    rfl
  · obtain ⟨v, z, rfl, h⟩ := h
    have hS0 : ∃ SP_ : Addr → Option Sp, (∀ f sp, SP_ f = some sp → Held P w K mg base 2 f sp) ∧ ∀ nm, v = tx nm → nm ∈ names13 → SP_ (He.ga K (testN nm)) = some (spT (testB nm)) := by
      classical
      by_cases hv : ∃ nm, v = tx nm ∧ nm ∈ names13
      · obtain ⟨nm, rfl, hn⟩ := hv
        refine ⟨fun f => if f = He.ga K (testN nm) then some (spT (testB nm)) else none, fun f sp hf => ?_, fun nm2 e2 h2 => ?_⟩
        · have hf : (if f = He.ga K (testN nm) then some (spT (testB nm)) else none) = some sp := hf
          by_cases hz : f = He.ga K (testN nm)
          · rw [if_pos hz] at hf
            obtain rfl := Option.some.inj hf
            subst hz
            exact (tests_held T nm hn).1
          · rw [if_neg hz] at hf
            cases hf
        · have e3 : nm = nm2 := SX.S_inj (V.str.inj e2)
          subst e3
          exact if_pos rfl
      · exact ⟨fun _ => none, fun f sp hf => (by cases hf), fun nm e1 h1 => absurd ⟨nm, e1, h1⟩ hv⟩
    obtain ⟨SP_, hS, hS2⟩ := hS0
    refine ⟨_, (pss_cons (ps_expr (pe_DX (W := fun cls d _ H => E cls d H) D_check_asked (by decide) hr (takes_of rfl rfl rfl rfl) (pa_cons (pv 0) (pa_cons (pv 1) pa_nil))))
     (pss_cons (ps_if (pt_cmpR (inSeq K) (pv 0) (pe_glob (v := .ref (He.ga K "ENDLESS")) rfl (T.gg 39 _ rfl) rfl) (by rfl)) (pss_one (ps_ret (pe_tx (l := [101, 110, 100, 108, 101, 115, 115]) (by decide +kernel)))) pss_nil)
     (pss_cons (ps_set (i := 2) sc_plainly.nd rfl (by first | exact Or.inl rfl | exact Or.inr rfl) (pe_ix ix_kdict (pe_glob (v := .ref (He.ga K "TESTS")) rfl (T.gg 41 _ rfl) rfl) (pv 0) (fun _ _ => rfl)))
     (pss_cons (ps_if (pt_val (pe_callA (i := 2) (S := SP_) hS (hr.mono (by decide)) rfl (by first | exact Or.inl rfl | exact Or.inr (Or.inl rfl) | exact Or.inr rfl) (pa_cons (pv 1) pa_nil))) (pss_one (ps_ret (pe_tx (l := [121, 101, 115]) (by decide +kernel)))) pss_nil)
     (pss_one (ps_ret (pe_tx (l := [110, 111]) (by decide +kernel)))))))), ?_⟩
    rcases h with ⟨hb, k⟩ | ⟨nm, rfl, hn, ⟨hb, k⟩ | ⟨a, rfl, ha, ho, k⟩⟩
    · exact q_dropX (ea_cons (ev_var rfl) (ea_cons (ev_var rfl) ea_nil)) fun H1 e1 => ⟨_, _, rfl, .inl ⟨hb.mono e1, k.mono e1⟩⟩
    · exact q_dropX (ea_cons (ev_var rfl) (ea_cons (ev_var rfl) ea_nil)) fun H1 e1 => ⟨_, _, rfl, .inr ⟨nm, rfl, hn, .inl ⟨hb.mono e1, k.mono e1⟩⟩⟩
    refine q_dropX (ea_cons (ev_var rfl) (ea_cons (ev_var rfl) ea_nil)) fun H1 e1 => ⟨_, _, rfl, .inr ⟨nm, rfl, hn, .inr ⟨a, rfl, ha, ho, fun H2 e2 => ?_⟩⟩⟩
    unfold plB at k
    refine q_when (et_test (ev_inTxT (ys := ends2) (ev_var rfl) ev_c (T.tE _))) (fun hb H3 e3 => ?_) (fun hb H3 e3 => ?_)
    · rw [if_pos (of_decide_eq_true hb)] at k
      exact s_ret ev_tx fun H4 e4 => k H4 ((e1.trans e2).trans (e3.trans e4))
    have hb := of_decide_eq_false hb
    rw [if_neg hb] at k
    have h13 := n13_of nm hn hb
    refine q_asg (v := .ref (He.ga K (testN nm))) (fun H4 e4 Q2 q2 => ⟨_, rfl, He.ga K "TESTS", S nm, _, rfl, rfl, (tests_held (P := P) (base := base) T nm h13).2, q2 H4 (Ex.refl H4)⟩) fun H4 e4 => ?_
    have call : Ev (tCallA 2 SP_ (tCons (tVar 1) tNil)) ([some (tx nm), some (tx a), some (.ref (He.ga K (testN nm)))] : L2.St) H4 (.bl (testB nm a)) := fun H5 e5 Q2 q2 => ⟨_, _, rfl, hS2 nm rfl h13, (ea_cons (ev_var rfl) ea_nil) H5 (Ex.refl H5) _ fun H6 e6 => ⟨a, rfl, ha, fun H7 e7 => q2 H7 (e6.trans e7)⟩⟩
    refine q_when (et_B call) (fun hb2 H5 e5 => ?_) (fun hb2 H5 e5 => ?_)
    · rw [if_pos hb2] at k
      exact s_ret ev_tx fun H6 e6 => k H6 ((e1.trans e2).trans ((e3.trans e4).trans (e5.trans e6)))
    · rw [if_neg (by rw [hb2]; decide)] at k
      exact s_ret ev_tx fun H6 e6 => k H6 ((e1.trans e2).trans ((e3.trans e4).trans (e5.trans e6)))
end K84
set_option Elab.async false
set_option linter.all false
set_option maxRecDepth 100000
set_option maxHeartbeats 4000000
/-! K84J: the law asks the program. -/
namespace K84
open PySem PySem.Spec PyProof.Rows L2 Kb
open SX (S)
open Evl (Ev EvL EvU EvT EvA EvO Ex RetV RetL SpV SpL ev_var ev_c s_ret s_retL s_asg s_asgL q_asg q_asgL q_when s_when s_if q_if et_or et_not et_and et_B et_test ev_andV ev_notV sq_of eo_some eo_none SpV ev_call ea_cons ea_nil q_ifAsg s_ifAsg q_while s_app q_app el_lst ev_is ex_l)
def nine : List Str := ["BadCode", "BadDeed", "BadLine", "BadPaper", "BadSplice", "BadStanding", "BadSurface", "BadToken", "BadTree"]
def eight : List Str := ["BadGrammar", "BadMachine", "DoubleName", "Guesses", "NoSuchProcedure", "NothingToUndo", "TooLong", "UnlikeLetters"]
section
variable {K : PySem.W.Frag} {σ : L2.St} {H H' : Hp} {ta tb te : TE} {D a d : Addr} {fs : List (Str × V)}
theorem kit_none : ∀ {ns : List Str}, (∀ x ∈ ns, PySem.W.kitOne K (.ref D) (.ref (He.ga K x)) = some false) → PySem.W.kitAny K (.ref D) (ns.map fun x => Value.ref (He.ga K x)) = some false
  | [], _ => rfl
  | x :: r, h => by
    show (match PySem.W.kitOne K (.ref D) (.ref (He.ga K x)) with | some true => some true | some false => PySem.W.kitAny K (.ref D) (r.map fun x => Value.ref (He.ga K x)) | none => none) = some false
    rw [h x List.mem_cons_self]
    exact kit_none fun y hy => h y (List.mem_cons_of_mem _ hy)
theorem cls_all : ∀ ns : List Str, Paired ClsV (ns.map fun x => V.ref (He.ga K x)) (ns.map fun x => Value.ref (He.ga K x))
  | [] => .nil
  | x :: r => .cons (.own _) (cls_all r)
theorem ev_isP {c : V} {u : Value} {k : Bool} (ha : Ev ta σ H (.ref a)) (hb : Ev tb σ H c) (hc : ClsV c u) (hk : PySem.W.kitOne K (.ref D) u = some k) (hd : H d = some (.xd fs)) : Ev (tCB (rIsP K D a d) (tCons ta (tCons tb tNil))) σ H (.bl k) := fun H1 e Q q =>
  ha H1 e _ fun H2 e2 => hb H2 (e.trans e2) _ fun H3 e3 => ⟨c, u, k, fs, rfl, hc, hk, ((e.trans e2).trans e3) _ _ hd, q H3 (e2.trans e3)⟩
theorem ev_isPT {ns : List Str} (ha : Ev ta σ H (.ref a)) (hb : EvU tb σ H (ns.map fun x => V.ref (He.ga K x))) (hk : ∀ x ∈ ns, PySem.W.kitOne K (.ref D) (.ref (He.ga K x)) = some false) (hd : H d = some (.xd fs)) :
    Ev (tCB (rIsPT K D a d) (tCons ta (tCons tb tNil))) σ H (.bl false) := fun H1 e Q q =>
  ha H1 e _ fun H2 e2 => hb H2 (e.trans e2) _ fun p H3 hp e3 h3 => ⟨p, _, _, false, fs, rfl, h3, cls_all ns, kit_none hk, ((e.trans e2).trans e3) _ _ hd, q H3 (e2.trans e3)⟩
end
theorem nine_in : ∀ x ∈ nine, x ∈ others := by unfold nine others; simp
theorem eight_in : ∀ x ∈ eight, x ∈ others := by unfold eight others; simp
theorem sc__law_plain : FnScope ["e"] ["e"] (defScope (top 63)) := ⟨rfl, rfl, rfl, by decide +kernel, rfl, by decide +kernel, by decide +kernel⟩
/-- the body of _law_plain, e the pinned error of the class x -/
theorem plain_body {P : Program} {w : World} {K : PySem.W.Frag} {mg : Str → Option Value} {base : Heap} (T : Tp w K mg) {x : Str} {pp : Addr × Obj} {d : Addr} (C : ExcC K (He.ga K x)) (kc : KitC K x) (hc : pp.2.cls = .ref (He.ga K x)) (hd : pp.2.dict = some d) (hv : ∃ vs, pp.2.data = .fields vs)
    (qual : Str) (f : Addr) (cdv : Value) (A : Around) (outer : List Env) (s : Shared) (H : Hp) (E : XK) : ∃ t, PSs (L2H.cxH CX0 P w K mg base ["e"] qual (defScope (top 63)) f cdv A outer s H E pp) (defBody (top 63)) t ∧
      ∀ (Q : VK), (∃ fs, H d = some (.xd fs)) → (∀ H', Ex H H' → Q (.bl true) H') → t { nx := fun _ H' => Q .non H', rt := Q } (L2.start ["e"] [.ref pp.1]) H := by
  refine ⟨_, (pss_cons (ps_if (pt_val (pe_callB (isE_tup C List.mem_cons_self hc hd hv) rfl T.b_isinstance (by decide +kernel) (pa_cons (pv 0) (pa_cons (pe_tup (pa_cons (pe_glob (v := .ref (He.ga K "BadCode")) rfl (T.gg 45 _ rfl) rfl) (pa_cons (pe_glob (v := .ref (He.ga K "BadDeed")) rfl (T.gg 46 _ rfl) rfl) (pa_cons (pe_glob (v := .ref (He.ga K "BadLine")) rfl (T.gg 47 _ rfl) rfl) (pa_cons (pe_glob (v := .ref (He.ga K "BadPaper")) rfl (T.gg 48 _ rfl) rfl) (pa_cons (pe_glob (v := .ref (He.ga K "BadSplice")) rfl (T.gg 49 _ rfl) rfl) (pa_cons (pe_glob (v := .ref (He.ga K "BadStanding")) rfl (T.gg 50 _ rfl) rfl) (pa_cons (pe_glob (v := .ref (He.ga K "BadSurface")) rfl (T.gg 51 _ rfl) rfl) (pa_cons (pe_glob (v := .ref (He.ga K "BadToken")) rfl (T.gg 52 _ rfl) rfl) (pa_cons (pe_glob (v := .ref (He.ga K "BadTree")) rfl (T.gg 53 _ rfl) rfl) pa_nil)))))))))) pa_nil)))) (pss_one (ps_ret pe_bl)) pss_nil)
      (pss_cons (ps_if (pt_val (pe_callB (isE_tup C List.mem_cons_self hc hd hv) rfl T.b_isinstance (by decide +kernel) (pa_cons (pv 0) (pa_cons (pe_tup (pa_cons (pe_glob (v := .ref (He.ga K "BadGrammar")) rfl (T.gg 54 _ rfl) rfl) (pa_cons (pe_glob (v := .ref (He.ga K "BadMachine")) rfl (T.gg 55 _ rfl) rfl) (pa_cons (pe_glob (v := .ref (He.ga K "DoubleName")) rfl (T.gg 56 _ rfl) rfl) (pa_cons (pe_glob (v := .ref (He.ga K "Guesses")) rfl (T.gg 57 _ rfl) rfl) (pa_cons (pe_glob (v := .ref (He.ga K "NoSuchProcedure")) rfl (T.gg 58 _ rfl) rfl) (pa_cons (pe_glob (v := .ref (He.ga K "NothingToUndo")) rfl (T.gg 59 _ rfl) rfl) (pa_cons (pe_glob (v := .ref (He.ga K "TooLong")) rfl (T.gg 60 _ rfl) rfl) (pa_cons (pe_glob (v := .ref (He.ga K "UnlikeLetters")) rfl (T.gg 61 _ rfl) rfl) pa_nil))))))))) pa_nil)))) (pss_one (ps_ret pe_bl)) pss_nil)
      (pss_one (ps_ret (pe_and (pe_callB (isE_one C List.mem_cons_self hc hd hv) rfl T.b_isinstance (by decide +kernel) (pa_cons (pv 0) (pa_cons (pe_glob (v := .ref (He.ga K "RecallError")) rfl (T.gg 44 _ rfl) rfl) pa_nil))) (pe_one (pe_callB (isE_one C List.mem_cons_self hc hd hv) rfl T.b_isinstance (by decide +kernel) (pa_cons (pv 0) (pa_cons (pe_bltn (v := .ty "ValueError") (u := .type "ValueError") rfl T.b_ValueError (by decide +kernel) rfl) pa_nil))))))))), fun Q hx k => ?_⟩
  obtain ⟨fs, hx⟩ := hx
  refine q_when (b := false) (et_B (ev_isPT (ns := nine) (ev_var rfl) (Evl.eu_tup (vs := nine.map fun x => V.ref (He.ga K x)) (ea_cons ev_c (ea_cons ev_c (ea_cons ev_c (ea_cons ev_c (ea_cons ev_c (ea_cons ev_c (ea_cons ev_c (ea_cons ev_c (ea_cons ev_c ea_nil))))))))) (by unfold nine; simp)) (fun y hy => kc.no y (nine_in y hy)) hx)) (fun z => by cases z) fun _ H1 e1 => ?_
  refine q_when (b := false) (et_B (ev_isPT (ns := eight) (ev_var rfl) (Evl.eu_tup (vs := eight.map fun x => V.ref (He.ga K x)) (ea_cons ev_c (ea_cons ev_c (ea_cons ev_c (ea_cons ev_c (ea_cons ev_c (ea_cons ev_c (ea_cons ev_c (ea_cons ev_c ea_nil)))))))) (by unfold eight; simp)) (fun y hy => kc.no y (eight_in y hy)) (e1 _ _ hx))) (fun z => by cases z) fun _ H2 e2 => ?_
  exact s_ret (ev_andV (ev_isP (ev_var rfl) ev_c (.own _) kc.re ((e1.trans e2) _ _ hx)) fun _ => ev_isP (ev_var rfl) ev_c (.ty _) kc.ve ((e1.trans e2) _ _ hx)) fun H3 e3 => k H3 ((e1.trans e2).trans e3)
theorem pe_plainA {X : Cx} {pp : Addr × Obj} {a : Addr} {x name qual a1 : Str} {params : Arguments} {body : List Stmt} {scope : Scope} {f : Addr} {fd : FuncData} {N : List Str} {k : Nat} {e : Expr} {ta : TA} {q pos : Pos} {Pre : Hp → Prop} {ans : Bool} (pa : pp.1 = a) (F : FunD X.K name qual params body scope [] [] f fd) (hb : Binds X.K fd [a1] [])
    (S : FnScope N [a1] scope) (hm : X.mg x = some (.ref f)) (hr : L2H.RoomH (k + 1) X.A) (hp : pp ∈ X.pn) (hg : Gl X x) (ha : PA X [e] ta)
    (hbody : ∀ (cdv : Value) (A : Around) (outer : List Env) (s : Shared) (H : Hp) (E : XK), ∃ t, PSs (L2H.cxH CX0 X.prog X.w X.K X.mg X.base N qual scope f cdv A outer s H E pp) body t ∧
      ∀ (Q : VK), Pre H → (∀ H', Ex H H' → Q (.bl ans) H') → t { nx := fun _ H' => Q .non H', rt := Q } (L2.start N [.ref pp.1]) H)
    (hdb : (x == ("__debug__" : Str)) = false := by decide) (he : starEach [e] X.env = (false, eval e X.env) :: starEach [] X.env := by rfl) (hpl : (backTo pos (starEach [] X.env)).any (·.1) = false := by rfl) :
    PE X (.Call (.Name x q) [e] [] pos) (fun σ H Q => ta σ H fun vs H1 => vs = [.ref a] ∧ Pre H1 ∧ ∀ H', Ex H1 H' → Q (.bl ans) H') := by
  subst pa
  exact pe_plain F hb S hm hr hp hg ha Pre ans hbody hdb he hpl
theorem isE_oneA {X : Cx} {pp : Addr × Obj} {D a d : Addr} (pa : pp.1 = a) (C : ExcC X.K D) (hp : pp ∈ X.pn) (hc : pp.2.cls = .ref D) (hd : pp.2.dict = some d) (hv : ∃ vs, pp.2.data = .fields vs) : CallR X (.builtin "isinstance") (rIsP X.K D a d) := by
  subst pa
  exact isE_one C hp hc hd hv
theorem ev_xf {σ : L2.St} {H : Hp} {te : TE} {a C dd : Addr} {f : Str} {v : V} (ha : Ev te σ H (.ref a)) (hd : H dd = some (.xd [(f, v)])) : Ev (tXf a (.ref C) (some dd) C f te) σ H v := fun H1 e Q q =>
  ha H1 e _ fun H2 e2 => ⟨rfl, rfl, dd, [(f, v)], v, rfl, (e.trans e2) _ _ hd, by simp [List.lookup], q H2 e2⟩
theorem ev_pl {σ : L2.St} {H : Hp} {te : TE} {a dd : Addr} {fs : List (Str × V)} (ha : Ev te σ H (.ref a)) (hd : H dd = some (.xd fs)) : Ev (fun σ H Q => tCons te tNil σ H fun vs H1 => vs = [.ref a] ∧ (∃ fs, H1 dd = some (.xd fs)) ∧ ∀ H', Ex H1 H' → Q (.bl true) H') σ H (.bl true) := fun H1 e Q q =>
  (ea_cons ha ea_nil) H1 e _ fun H2 e2 => ⟨rfl, ⟨fs, (e.trans e2) _ _ hd⟩, fun H3 e3 => q H3 (e2.trans e3)⟩
/-! ### what is said under a condition -/
theorem pss_given {X : Cx} {l : List Stmt} {α : Type} {G : α → Prop} {t : α → TS} (h : ∀ x, G x → PSs X l (t x)) : PSs X l (fun D σ H => ∃ x, G x ∧ t x D σ H) :=
  ⟨fun pins s σ H D I z => by
    obtain ⟨x, g, z⟩ := z
    exact (h x g).run pins s σ H D I z⟩
theorem roomH {k : Nat} {A : Around} (r : Room k A) (h : Option Value) : L2H.RoomH k (A.mark h) := ⟨r.dp, r.un⟩
def RetU (xs : List V) (H : Hp) (Q : VK) : Prop := ∀ p H2, H p = none → Ex H H2 → H2 p = some (.tup xs) → Q (.ref p) H2
theorem RetU.mono {xs : List V} {H H' : Hp} {Q : VK} (h : RetU xs H Q) (e : Ex H H') : RetU xs H' Q := fun p H2 hp e2 h2 => h p H2 (Evl.fresh_back e hp) (e.trans e2) h2
def spAsk (K : PySem.W.Frag) : Sp := fun vs H Q _ => ∃ v z, vs = [v, z] ∧ ((NmBad K H v ∧ RetU [tx [110, 111, 32, 115, 117, 99, 104], v, .bl true] H Q) ∨ (∃ nm, v = tx nm ∧ nm ∈ names15 ∧ ((TxBad K H nm z ∧ RetU [tx [98, 97, 100, 32, 116, 101, 120, 116], z, .bl true] H Q) ∨ (∃ a, z = tx a ∧ a.length ≤ 1000 ∧ okT nm a = true ∧ RetU [tx [116, 111, 108, 100], tx (plB nm a)] H Q))))
theorem sc__law_asked : FnScope ["name", "value", "e"] ["name", "value"] (defScope (top 64)) := ⟨rfl, rfl, rfl, by decide +kernel, rfl, by decide +kernel, by decide +kernel⟩
theorem xfc {K : PySem.W.Frag} {x f : Str} (e : ErrC K x f) : XfC K (He.ga K x) := ⟨e.exc.hg, e.exc.hk, e.exc.hs, e.exc.hd⟩
def sN (K : PySem.W.Frag) : Suite := fun a cls d D σ H => ∃ dd, (cls = Value.ref (He.ga K "NoSuchProgram") ∧ d = some dd) ∧ tRet (tTup (tCons (tC (tx [110, 111, 32, 115, 117, 99, 104])) (tCons (tXf a cls d (He.ga K "NoSuchProgram") "name" (tVar 2)) (tCons (tAndV (fun σ H Q => tCons (tVar 2) tNil σ H fun vs H1 => vs = [.ref a] ∧ (∃ fs, H1 dd = some (.xd fs)) ∧ ∀ H', Ex H1 H' → Q (.bl true) H') (tNotV (tCB (rIsP K (He.ga K "NoSuchProgram") a dd) (tCons (tVar 2) (tCons (tC (.ref (He.ga K "BadText"))) tNil))))) tNil)))) D σ H
def sB (K : PySem.W.Frag) : Suite := fun a cls d D σ H => ∃ dd, (cls = Value.ref (He.ga K "BadText") ∧ d = some dd) ∧ tRet (tTup (tCons (tC (tx [98, 97, 100, 32, 116, 101, 120, 116])) (tCons (tXf a cls d (He.ga K "BadText") "text" (tVar 2)) (tCons (tAndV (fun σ H Q => tCons (tVar 2) tNil σ H fun vs H1 => vs = [.ref a] ∧ (∃ fs, H1 dd = some (.xd fs)) ∧ ∀ H', Ex H1 H' → Q (.bl true) H') (tNotV (tCB (rIsP K (He.ga K "BadText") a dd) (tCons (tVar 2) (tCons (tC (.ref (He.ga K "NoSuchProgram"))) tNil))))) tNil)))) D σ H
def tAsk (K : PySem.W.Frag) : TS := fun D σ H => tRet (tTup (tCons (tC (tx [116, 111, 108, 100])) (tCons (tCallS (spPl K) (WE (wSome K 2 D [(Value.ref (He.ga K "NoSuchProgram"), sN K), (Value.ref (He.ga K "BadText"), sB K)])) (tCons (tVar 0) (tCons (tVar 1) tNil))) tNil))) D σ H
theorem ok__law_asked {P : Program} {w : World} {K : PySem.W.Frag} {mg : Str → Option Value} {base : Heap} (T : Tp w K mg) : DefOk P w K mg base CX0 "_law_asked" 6 ["name", "value"] (spAsk K) := by
  have D_plainly := ok_plainly (P := P) (base := base) T
  obtain ⟨fdP, FP⟩ := T.df 31 _ rfl
  have bP : Binds K fdP ["e"] [] := FunD.bindsN FP (fun _ _ _ _ _ _ us hl => match us, hl with | [_], _ => rfl)
  refine mkDef0 (f := He.fAd K ("_law_asked", none)) (T.df 32 _ rfl) (T.gg 32 _ rfl) sc__law_asked (fun vs H Q E h => ?_) (fun _ _ _ _ _ _ us hl => match us, hl with | [_, _], _ => rfl) (fun cdv A outer s H vs Q E hr h => ?_)
  · obtain ⟨_, _, rfl, _⟩ := h
    rfl
  · obtain ⟨v, z, rfl, h⟩ := h
    refine ⟨tSeq (tAsk K) tNext, ?_, ?_⟩
    · refine pss_one (t := tAsk K) ?_
      refine ps_trySome (i := 2) (tb := fun W => tRet (tTup (tCons (tC (tx [116, 111, 108, 100])) (tCons (tCallS (spPl K) (WE W) (tCons (tVar 0) (tCons (tVar 1) tNil))) tNil)))) (l := [(Value.ref (He.ga K "NoSuchProgram"), sN K), (Value.ref (He.ga K "BadText"), sB K)]) rfl rfl sc__law_asked.nd rfl rfl (fun W pn xe tk => ?_) ?_
      · exact pss_one (ps_ret (pe_tup (pa_cons (pe_tx (l := [116, 111, 108, 100]) (by decide +kernel)) (pa_cons (pe_DX (W := W) D_plainly (by decide) hr tk (pa_cons (pv 0) (pa_cons (pv 1) pa_nil))) pa_nil))))
      · refine AsOk.cons ⟨rfl, by decide, Or.inl (T.gg 42 _ rfl)⟩ ?_ (AsOk.cons ⟨rfl, by decide, Or.inl (T.gg 43 _ rfl)⟩ ?_ AsOk.nil)
        · exact (fun a o cls d pn hz hv => pss_given (fun dd g => pss_one (ps_ret (pe_tup (pa_cons (pe_tx (l := [110, 111, 32, 115, 117, 99, 104]) (by decide +kernel)) (pa_cons (pe_xf (cls := cls) (d := d) (xfc T.cN) T.cN.nof hz hv (pv 2)) (pa_cons (pe_and
        (by exact pe_plainA (pp := (a, o)) (a := a) (k := 0) (Pre := fun H => ∃ fs, H dd = some (.xd fs)) (ans := true) rfl FP bP sc__law_plain (T.gg 31 _ rfl) (roomH (hr.mono (by decide)) _) List.mem_cons_self rfl (pa_cons (pv 2) pa_nil) (fun cdv A outer s H E => plain_body T T.cN.exc T.kN (hz.1.trans g.1) (hz.2.trans g.2) hv _ _ cdv A outer s H E))
        (pe_one (pe_not (pe_callB (isE_oneA (pp := (a, o)) (a := a) rfl (d := dd) T.cN.exc (List.mem_cons_self : (a, o) ∈ (a, o) :: pn) (hz.1.trans g.1) (hz.2.trans g.2) hv) rfl T.b_isinstance (by decide +kernel) (pa_cons (pv 2) (pa_cons (pe_glob (v := .ref (He.ga K "BadText")) rfl (T.gg 43 _ rfl) rfl) pa_nil)))))) pa_nil)))))))
        · exact (fun a o cls d pn hz hv => pss_given (fun dd g => pss_one (ps_ret (pe_tup (pa_cons (pe_tx (l := [98, 97, 100, 32, 116, 101, 120, 116]) (by decide +kernel)) (pa_cons (pe_xf (cls := cls) (d := d) (xfc T.cB) T.cB.nof hz hv (pv 2)) (pa_cons (pe_and
        (by exact pe_plainA (pp := (a, o)) (a := a) (k := 0) (Pre := fun H => ∃ fs, H dd = some (.xd fs)) (ans := true) rfl FP bP sc__law_plain (T.gg 31 _ rfl) (roomH (hr.mono (by decide)) _) List.mem_cons_self rfl (pa_cons (pv 2) pa_nil) (fun cdv A outer s H E => plain_body T T.cB.exc T.kB (hz.1.trans g.1) (hz.2.trans g.2) hv _ _ cdv A outer s H E))
        (pe_one (pe_not (pe_callB (isE_oneA (pp := (a, o)) (a := a) rfl (d := dd) T.cB.exc (List.mem_cons_self : (a, o) ∈ (a, o) :: pn) (hz.1.trans g.1) (hz.2.trans g.2) hv) rfl T.b_isinstance (by decide +kernel) (pa_cons (pv 2) (pa_cons (pe_glob (v := .ref (He.ga K "NoSuchProgram")) rfl (T.gg 42 _ rfl) rfl) pa_nil)))))) pa_nil)))))))
    · have args : EvA (tCons (tVar 0) (tCons (tVar 1) tNil)) ([some v, some z, none] : L2.St) H [v, z] := ea_cons (ev_var rfl) (ea_cons (ev_var rfl) ea_nil)
      refine args H (Ex.refl H) (fun vs H1 => spPl K vs H1 (fun y H2 => ([tx [116, 111, 108, 100], y] : List V).length ≤ sizeLine ∧ ∀ p, H2 p = none → Q (.ref p) (upd H2 p (.tup [tx [116, 111, 108, 100], y]))) (fun cls d H2 => wSome K 2 { nx := fun σ H3 => Q .non H3, rt := Q } [(Value.ref (He.ga K "NoSuchProgram"), sN K), (Value.ref (He.ga K "BadText"), sB K)] cls d [some v, some z, none] H2)) fun H1 e1 => ⟨v, z, rfl, ?_⟩
      rcases h with ⟨hb, k⟩ | ⟨nm, rfl, hn, ⟨hb, k⟩ | ⟨a, rfl, ha, ho, k⟩⟩
      · refine .inl ⟨hb.mono e1, fun d H2 e2 hd => ⟨true, T.eNN, fun _ a na => ⟨d, ⟨rfl, rfl⟩, ?_⟩, fun z => by cases z⟩⟩
        exact Evl.s_retU (Evl.eu_tup (ea_cons ev_c (ea_cons (ev_xf (v := v) (ev_var rfl) hd) (ea_cons (ev_andV (ev_pl (ev_var rfl) hd) fun _ => ev_notV (ev_isP (ev_var rfl) ev_c (.own _) T.nb hd)) ea_nil))) (by simp)) fun p H3 hp e3 h3 => k p H3 (Evl.fresh_back (e1.trans e2) hp) ((e1.trans e2).trans e3) h3
      · refine .inr ⟨nm, rfl, hn, .inl ⟨hb.mono e1, fun d H2 e2 hd => ⟨false, T.eBN, fun z => (by cases z), fun _ => ⟨true, T.eBB, fun _ a na => ⟨d, ⟨rfl, rfl⟩, ?_⟩, fun z => by cases z⟩⟩⟩⟩
        exact Evl.s_retU (Evl.eu_tup (ea_cons ev_c (ea_cons (ev_xf (v := z) (ev_var rfl) hd) (ea_cons (ev_andV (ev_pl (ev_var rfl) hd) fun _ => ev_notV (ev_isP (ev_var rfl) ev_c (.own _) T.bn hd)) ea_nil))) (by simp)) fun p H3 hp e3 h3 => k p H3 (Evl.fresh_back (e1.trans e2) hp) ((e1.trans e2).trans e3) h3
      · exact .inr ⟨nm, rfl, hn, .inr ⟨a, rfl, ha, ho, fun H2 e2 => ⟨by show 2 ≤ sizeLine; decide, fun p hp => k p _ (Evl.fresh_back (e1.trans e2) hp) ((e1.trans e2).trans (Ex.new hp)) upd_same⟩⟩⟩
end K84
set_option Elab.async false
set_option linter.all false
set_option maxRecDepth 100000
set_option maxHeartbeats 4000000
/-! K84K: the law's comparison and its verdict on what the program told. -/
namespace K84
open PySem PySem.Spec PyProof.Rows L2 Kb
open SX (S)
open Evl (Ev EvL EvU EvT EvA EvO Ex RetV RetL SpV SpL ev_var ev_c s_ret s_retL s_asg s_asgL q_asg q_asgL q_when s_when s_if q_if et_or et_not et_and et_B et_test ev_andV ev_notV sq_of st_of eo_some eo_none SpV ev_call ea_cons ea_nil q_ifAsg s_ifAsg q_while s_app q_app el_lst ev_is ex_l)
def spSm1 : Sp := fun vs H Q _ => ∃ a b : List Nat, vs = [tx a, tx b] ∧ RetV (.bl (decide (a = b))) H Q
def spSm2 : Sp := fun vs H Q _ => ∃ (p q : Addr) (xs ys : List (List Nat)), vs = [.ref p, .ref q] ∧ H p = some (.tup (xs.map tx)) ∧ H q = some (.tup (ys.map tx)) ∧ xs.length = ys.length ∧ ys.length ≤ 100 ∧ (xs = ys → RetV (.bl true) H Q) ∧ xs = ys
theorem sc__law_same : FnScope ["told", "due", "k"] ["told", "due"] (defScope (top 49)) := ⟨rfl, rfl, rfl, by decide +kernel, rfl, by decide +kernel, by decide +kernel⟩
theorem ok_same1 {P : Program} {w : World} {K : PySem.W.Frag} {mg : Str → Option Value} {base : Heap} (T : Tp w K mg) : DefOk P w K mg base CX0 "_law_same" 1 ["told", "due"] spSm1 := by
  refine mkDef0 (f := He.fAd K ("_law_same", none)) (T.df 17 _ rfl) (T.gg 17 _ rfl) sc__law_same (fun vs H Q E h => ?_) (fun _ _ _ _ _ _ us hl => match us, hl with | [_, _], _ => rfl) (fun cdv A outer s H vs Q E hr h => ?_)
  · obtain ⟨_, _, rfl, _⟩ := h
    rfl
  · obtain ⟨a, b, rfl, k⟩ := h
    refine ⟨_, (pss_cons (ps_if (pt_val (pe_callB (isiK K) rfl T.b_isinstance (by decide +kernel) (pa_cons (pv 1) (pa_cons (pe_bltn (v := .ty "tuple") (u := .type "tuple") rfl T.b_tuple (by decide +kernel) rfl) pa_nil)))) pss_never pss_nil) (pss_cons (ps_if (pt_cmpR op_isN (pv 1) pe_non (nomark _)) pss_never pss_nil) (pss_cons (ps_if (pt_val (pe_callB (isiK K) rfl T.b_isinstance (by decide +kernel) (pa_cons (pv 1) (pa_cons (pe_bltn (v := .ty "bool") (u := .type "bool") rfl T.b_bool (by decide +kernel) rfl) pa_nil)))) pss_never pss_nil) (pss_cons (ps_if (pt_val (pe_callB (isiK K) rfl T.b_isinstance (by decide +kernel) (pa_cons (pv 1) (pa_cons (pe_bltn (v := .ty "int") (u := .type "int") rfl T.b_int (by decide +kernel) rfl) pa_nil)))) pss_never pss_nil) (pss_one (ps_ret (pe_and (pe_callB (isiK K) rfl T.b_isinstance (by decide +kernel) (pa_cons (pv 0) (pa_cons (pe_bltn (v := .ty "str") (u := .type "str") rfl T.b_str (by decide +kernel) rfl) pa_nil))) (pe_one (pe_cmpR op_eq (pv 0) (pv 1) (nomark _)))))))))), ?_⟩
    refine q_when (et_B (ev_isi (ev_var rfl) (isA_str (k := false) _ "tuple" (by decide +kernel)))) (fun z => by cases z) fun _ H1 e1 => ?_
    refine q_when (b := false) (et_test (Evl.ev_op (z := .bl false) (x := tx b) (y := .non) (ev_var rfl) ev_c fun H2 e2 Q2 q2 => ⟨rfl, q2 H2 (Ex.refl H2)⟩)) (fun z => by cases z) fun _ H2 e2 => ?_
    refine q_when (et_B (ev_isi (ev_var rfl) (isA_str (k := false) _ "bool" (by decide +kernel)))) (fun z => by cases z) fun _ H3 e3 => ?_
    refine q_when (et_B (ev_isi (ev_var rfl) (isA_str (k := false) _ "int" (by decide +kernel)))) (fun z => by cases z) fun _ H4 e4 => ?_
    exact s_ret (ev_andV (ev_isi (ev_var rfl) (isA_str (k := true) _ "str" (by decide +kernel))) fun _ => ev_eqS (ev_var rfl) (ev_var rfl)) fun H5 e5 => by
      rw [Bool.true_and]
      exact k H5 ((e1.trans e2).trans ((e3.trans e4).trans e5))
theorem ok_same2 {P : Program} {w : World} {K : PySem.W.Frag} {mg : Str → Option Value} {base : Heap} (T : Tp w K mg) : DefOk P w K mg base CX0 "_law_same" 2 ["told", "due"] spSm2 := by
  have D__law_same := ok_same1 (P := P) (base := base) T
  refine mkDef0 (f := He.fAd K ("_law_same", none)) (T.df 17 _ rfl) (T.gg 17 _ rfl) sc__law_same (fun vs H Q E h => ?_) (fun _ _ _ _ _ _ us hl => match us, hl with | [_, _], _ => rfl) (fun cdv A outer s H vs Q E hr h => ?_)
  · obtain ⟨_, _, _, _, rfl, _⟩ := h
    rfl
  · obtain ⟨p, q, xs, ys, rfl, hp, hq, hxy, hlen, k, heq⟩ := h
    subst heq
    replace k := k rfl
    refine ⟨_, (pss_cons (ps_if (pt_val (pe_callB (isiK K) rfl T.b_isinstance (by decide +kernel) (pa_cons (pv 1) (pa_cons (pe_bltn (v := .ty "tuple") (u := .type "tuple") rfl T.b_tuple (by decide +kernel) rfl) pa_nil)))) (pss_cons (ps_if (PW.pt (pw_or (pt_not (pt_val (pe_callB (isiK K) rfl T.b_isinstance (by decide +kernel) (pa_cons (pv 0) (pa_cons (pe_bltn (v := .ty "tuple") (u := .type "tuple") rfl T.b_tuple (by decide +kernel) rfl) pa_nil))))) (pw_or1 (pt_cmpR op_ne (pe_callB (clnL K) rfl T.b_len (by decide +kernel) (pa_cons (pv 0) pa_nil)) (pe_callB (clnL K) rfl T.b_len (by decide +kernel) (pa_cons (pv 1) pa_nil)) (nomark _))))) (pss_one (ps_ret pe_bl)) pss_nil)
  (pss_cons (ps_for PassesOwn.never rfl (pi_range1 rfl T.b_range (pa_cons (pe_callB (clnL K) rfl T.b_len (by decide +kernel) (pa_cons (pv 1) pa_nil)) pa_nil)) (pg_name (i := 2) sc__law_same.nd rfl (by first | exact Or.inl rfl | exact Or.inr rfl)) (pss_one (ps_if (pt_not (pt_val (pe_D D__law_same (by decide) hr (pa_cons (pe_ix (ixT K) (pv 0) (pv 2) (fun _ _ => rfl)) (pa_cons (pe_ix (ixT K) (pv 1) (pv 2) (fun _ _ => rfl)) pa_nil))))) (pss_one (ps_ret pe_bl)) pss_nil)))
  (pss_one (ps_ret pe_bl)))) pss_nil) pss_never), ?_⟩
    refine q_when (et_B (ev_isi (ev_var rfl) (isA_tup (k := true) "tuple" hq (by decide +kernel)))) (fun _ H1 e1 => ?_) (fun z => by cases z)
    have hl2 : ((xs.map tx).length : Int) = (xs.length : Int) := by rw [List.length_map]
    refine q_when (b := false) (Evl.et_is (et_or (et_not (et_B (ev_isi (ev_var rfl) (isA_tup (k := true) "tuple" (e1 _ _ hp) (by decide +kernel))))) fun _ => et_test (ev_neI (ev_lnT (ev_var rfl) (st_of (e1 _ _ hp)) hl2) (ev_lnT (ev_var rfl) (st_of (e1 _ _ hq)) hl2))) (by simp)) (fun z => by cases z) fun _ H2 e2 => ?_
    refine Evl.q_forR1 (n := (xs.length : Int)) (ea_cons (ev_lnT (ev_var rfl) (st_of (e2 _ _ (e1 _ _ hq))) hl2) ea_nil) (by omega) (fun i σ H' => ∃ y, σ = [some (.ref p), some (.ref q), y] ∧ Ex H H') (fun H3 e3 => ⟨none, rfl, (e1.trans e2).trans e3⟩) (fun i σ H' hi hw => ?_) (fun σ H' hw => ?_)
    · obtain ⟨y, rfl, e⟩ := hw
      have hi2 : i < xs.length := by omega
      have hx : (xs.map tx)[i]? = some (tx xs[i]) := by rw [List.getElem?_map, List.getElem?_eq_getElem hi2]; rfl
      refine s_when (et_not (et_B (ev_call (z := .bl true) (ea_cons (ev_ixT (k := i) (ev_var rfl) (ev_var rfl) (st_of (e _ _ hp)) hx) (ea_cons (ev_ixT (k := i) (ev_var rfl) (ev_var rfl) (st_of (e _ _ hq)) hx) ea_nil)) (fun H3 e3 Q2 q2 E2 => ⟨xs[i], xs[i], rfl, fun H4 e4 => by
        rw [decide_eq_true rfl]
        exact q2 H4 e4⟩)))) (fun z => by cases z) fun _ H3 e3 => ⟨_, rfl, e.trans e3⟩
    · obtain ⟨y, rfl, e⟩ := hw
      exact s_ret ev_c fun H3 e3 => k H3 (e.trans e3)
/-! ### data -/
theorem dpAll_tx {K : PySem.W.Frag} {H : Hp} : ∀ xs : List (List Nat), DpAll K H (xs.map tx) (xs.map fun a => PyData.str (S a))
  | [] => .nil
  | x :: r => .cons (.str _) (dpAll_tx r)
theorem can_tx {n : Nat} {a : List Nat} (h : Sm n a) : PyData.canLay0 (.str (S a)) = true := by
  show PyData.strOk (S a) = true
  unfold PyData.strOk
  rw [← Array.all_toList]
  refine List.all_eq_true.mpr fun c hc => ?_
  rw [tl_S] at hc
  exact decide_eq_true (Nat.lt_trans (h.2 c hc) (by decide))
theorem canAll_tx : ∀ xs : List (List Nat), (∀ a ∈ xs, Sm 1000 a) → PyData.canLayAll0 (xs.map fun a => PyData.str (S a)) = true
  | [], _ => rfl
  | x :: r, h => by
    show (PyData.canLay0 (.str (S x)) && PyData.canLayAll0 (r.map fun a => PyData.str (S a))) = true
    rw [can_tx (h x List.mem_cons_self), canAll_tx r fun a ha => h a (List.mem_cons_of_mem _ ha)]
    rfl
theorem depAll_tx : ∀ xs : List (List Nat), PyData.depthAll (xs.map fun a => PyData.str (S a)) = 0
  | [] => rfl
  | x :: r => by
    show max (PyData.depth (.str (S x))) (PyData.depthAll (r.map fun a => PyData.str (S a))) = 0
    rw [depAll_tx r]
    rfl
theorem dicAll_tx : ∀ xs : List (List Nat), PyData.hasDictAll (xs.map fun a => PyData.str (S a)) = false
  | [] => rfl
  | x :: r => by
    show (PyData.hasDict (.str (S x)) || PyData.hasDictAll (r.map fun a => PyData.str (S a))) = false
    rw [dicAll_tx r]
    rfl
theorem shoAll_tx : ∀ xs : List (List Nat), PyData.showableAll (xs.map fun a => PyData.str (S a)) = true
  | [] => rfl
  | x :: r => by
    show (PyData.showable (.str (S x)) && PyData.showableAll (r.map fun a => PyData.str (S a))) = true
    rw [shoAll_tx r]
    rfl
theorem leaf_tx {a : List Nat} {n : Nat} (h : Sm n a) : PyData.leavesShort 12 (.str (S a)) = true := by
  show (S a).cps.toList.all (fun c => decide (c < 16 ^ 8)) = true
  rw [List.all_eq_true]
  intro c hc
  rw [tl_S] at hc
  exact decide_eq_true (Nat.lt_trans (h.2 c hc) (by decide))
theorem leafAll_tx : ∀ xs : List (List Nat), (∀ a ∈ xs, Sm 1000 a) → PyData.leavesShortAll 12 (xs.map fun a => PyData.str (S a)) = true
  | [], _ => rfl
  | x :: r, h => by
    show (PyData.leavesShort 12 (.str (S x)) && PyData.leavesShortAll 12 (r.map fun a => PyData.str (S a))) = true
    rw [leaf_tx (h x List.mem_cons_self), leafAll_tx r fun a ha => h a (List.mem_cons_of_mem _ ha)]
    rfl
theorem bulkAll_tx : ∀ xs : List (List Nat), (∀ a ∈ xs, Sm 1000 a) → PyData.bulkAll (xs.map fun a => PyData.str (S a)) ≤ 1001 * xs.length
  | [], _ => Nat.zero_le _
  | x :: r, h => by
    have ih := bulkAll_tx r fun a ha => h a (List.mem_cons_of_mem _ ha)
    have hx := (h x List.mem_cons_self).1
    show PyData.bulk (.str (S x)) + 1 + PyData.bulkAll (r.map fun a => PyData.str (S a)) ≤ _
    have e : PyData.bulk (.str (S x)) = x.length := by
      show (S x).cps.size = x.length
      simp [S]
    rw [e, List.length_cons]
    omega
/-- a datum that may stand in names and may be shown -/
structure DatOk (K : PySem.W.Frag) (H : Hp) (v : V) (d : PyData) : Prop where
  dp : ∀ H', Ex H H' → Dp K H' v d
  sh : SeqAt.shaped d = true
  so : d.showable = true
  hd : d.hasDict = false
  sz : d.shown.length ≤ sizeLine
  de : d.depth ≤ 64
theorem shaped_of {d : PyData} (h1 : d.canLay0 = true) (h2 : d.depth ≤ 64) : SeqAt.shaped d = true := by
  unfold SeqAt.shaped
  rw [h1, decide_eq_true h2]
  rfl
theorem dat_tx (K : PySem.W.Frag) (H : Hp) {a : List Nat} (h : Sm 1000 a) : DatOk K H (tx a) (.str (S a)) := by
  refine ⟨fun _ _ => .str _, shaped_of (can_tx h) (by show 0 ≤ 64; decide), rfl, rfl, PyData.shown_fits_bulk (B := 12) (by decide) (by decide) (leaf_tx h) ?_, by show 0 ≤ 64; decide⟩
  show (S a).cps.size ≤ 2 ^ 20
  have := h.1
  have e : (S a).cps.size = a.length := by simp [S]
  rw [e]
  omega
theorem gv_dat {K : PySem.W.Frag} {H : Hp} {v : V} (g : GV H v) : ∃ d, DatOk K H v d ∧ ((∃ a, v = tx a ∧ Sm 1000 a ∧ d = .str (S a)) ∨ (IsA K H v "str" false ∧ ∀ x : Str, PyData.eqv (.str x) d = false)) := by
  rcases g with ⟨a, rfl, h⟩ | rfl | rfl | rfl | ⟨p, xs, rfl, h1, h2, h3⟩ | ⟨p, xs, rfl, h1, h2, h3⟩
  · exact ⟨_, dat_tx K H h, .inl ⟨a, rfl, h, rfl⟩⟩
  · exact ⟨.none, ⟨fun _ _ => .non, shaped_of rfl (by show 0 ≤ 64; decide), rfl, rfl, by rw [PyData.shown_none]; decide +kernel, by show 0 ≤ 64; decide⟩, .inr ⟨isA_non "str" (by decide +kernel), fun _ => rfl⟩⟩
  · exact ⟨.int 7, ⟨fun _ _ => .int _, shaped_of rfl (by show 0 ≤ 64; decide), by decide +kernel, rfl, by rw [PyData.shown_int]; decide +kernel, by show 0 ≤ 64; decide⟩, .inr ⟨isA_int _ "str" (by decide +kernel), fun _ => rfl⟩⟩
  · exact ⟨.bool true, ⟨fun _ _ => .bl _, shaped_of rfl (by show 0 ≤ 64; decide), rfl, rfl, by rw [PyData.shown_bool]; decide +kernel, by show 0 ≤ 64; decide⟩, .inr ⟨isA_bl _ "str" (by decide +kernel), fun _ => rfl⟩⟩
  · have hb := bulkAll_tx xs h3
    have hde : PyData.depth (.list (xs.map fun a => PyData.str (S a))) ≤ 64 := by
      show PyData.depthAll (xs.map fun a => PyData.str (S a)) + 1 ≤ 64
      rw [depAll_tx]
      decide
    exact ⟨.list (xs.map fun a => .str (S a)), ⟨fun H' e => .lst (sq_of (e _ _ h1)) (dpAll_tx xs), shaped_of (canAll_tx xs h3) hde, shoAll_tx xs, dicAll_tx xs, PyData.shown_fits_bulk (B := 12) (by decide) (by decide) (leafAll_tx xs h3) (by show PyData.bulkAll _ ≤ 2 ^ 20; omega), hde⟩,
      .inr ⟨isA_lst "str" h1 (by decide +kernel), fun _ => rfl⟩⟩
  · have hb := bulkAll_tx xs h3
    have hde : PyData.depth (.tuple (xs.map fun a => PyData.str (S a))) ≤ 64 := by
      show PyData.depthAll (xs.map fun a => PyData.str (S a)) + 1 ≤ 64
      rw [depAll_tx]
      decide
    exact ⟨.tuple (xs.map fun a => .str (S a)), ⟨fun H' e => .tup (st_of (e _ _ h1)) (dpAll_tx xs), shaped_of (canAll_tx xs h3) hde, shoAll_tx xs, dicAll_tx xs, PyData.shown_fits_bulk (B := 12) (by decide) (by decide) (leafAll_tx xs h3) (by show PyData.bulkAll _ ≤ 2 ^ 20; omega), hde⟩,
      .inr ⟨isA_tup "str" h1 (by decide +kernel), fun _ => rfl⟩⟩
section
variable {K : PySem.W.Frag} {σ : L2.St} {H H' : Hp} {ta tb te : TE} {v : V} {d : PyData}
theorem ev_repr (ha : Ev ta σ H v) (h : DatOk K H v d) : Ev (tCB (rRepr K) (tCons ta tNil)) σ H (.str d.shown) := fun H1 e Q q =>
  ha H1 e _ fun H2 e2 => ⟨v, d, rfl, h.dp H2 (e.trans e2), h.so, h.hd, h.sz, h.de, q H2 e2⟩
theorem DatOk.mono (h : DatOk K H v d) (e : Ex H H') : DatOk K H' v d := ⟨fun H2 e2 => h.dp H2 (e.trans e2), h.sh, h.so, h.hd, h.sz, h.de⟩
def nmD : List PyData := names15.map fun a => PyData.str (S a)
theorem nmD_sh : SeqAt.shaped (.list nmD) = true := shaped_of (canAll_tx names15 fun a ha => ⟨by have := (name_facts a ha).2.1; omega, fun c hc => by simpa using List.all_eq_true.mp (name_facts a ha).2.2 c hc⟩) (by
  show PyData.depthAll (names15.map fun a => PyData.str (S a)) + 1 ≤ 64
  rw [depAll_tx]
  decide)
theorem ev_niD (ha : Ev ta σ H v) (h : DatOk K H v d) (hb : EvL tb σ H (names15.map tx)) : Ev (tOp (rNotInD K) ta tb) σ H (.bl (!nmD.any fun z => PyData.eqv z d)) :=
  Evl.ev_opL ha hb fun p H1 hp e1 => fun H2 e2 Q q => ⟨d, nmD, h.dp H2 (e1.trans e2), .lst (sq_of (e2 _ _ hp)) (dpAll_tx names15), h.sh, nmD_sh, q H2 (Ex.refl H2)⟩
theorem nmD_tx (a : List Nat) : (nmD.any fun z => PyData.eqv z (.str (S a))) = decide (a ∈ names15) := by
  unfold nmD
  rw [List.any_map]
  apply Bool.eq_iff_iff.mpr
  rw [List.any_eq_true, decide_eq_true_iff]
  constructor
  · rintro ⟨y, hy, e⟩
    have e : (S y == S a) = true := e
    have := SX.S_inj (eq_of_beq e)
    subst this
    exact hy
  · intro h
    exact ⟨a, h, show (S a == S a) = true by simp⟩
theorem nmD_no {d : PyData} (h : ∀ x : Str, PyData.eqv (.str x) d = false) : (nmD.any fun z => PyData.eqv z d) = false := by
  unfold nmD
  rw [List.any_map, List.any_eq_false]
  intro a _ z
  have z : PyData.eqv (.str (S a)) d = true := z
  rw [h] at z
  cases z
end
theorem isA_tx_no {K : PySem.W.Frag} {H : Hp} {a : List Nat} (h : IsA K H (tx a) "str" false) : False := by
  obtain ⟨t, h1, h2⟩ := h
  obtain ⟨t2, h3, h4⟩ := isA_str (K := K) (H := H) (k := true) (S a) "str" (by decide +kernel)
  cases h1 with
  | base g =>
    cases g with
    | str x =>
      cases h3 with
      | base g =>
        cases g with
        | str x =>
          rw [h4] at h2
          cases h2
def fitB (a : List Nat) : Bool := a.all (fun c => decide (c ∈ [97, 98, 99])) && decide ((a.length : Int) ≤ 400)
theorem ok_fit (nm a : List Nat) : (!fitB a || (decide (nm ∈ gues2) && decide ((40 : Int) < (a.length : Int)))) = !okT nm a := by
  unfold okT fitB
  have e40 : decide ((40 : Int) < (a.length : Int)) = decide (40 < a.length) := decide_eq_decide.mpr (by omega)
  have e400 : decide ((a.length : Int) ≤ 400) = decide (a.length ≤ 400) := decide_eq_decide.mpr (by omega)
  rw [e40, e400]
  cases decide (a.length ≤ 400) <;> cases (a.all fun c => decide (c ∈ [97, 98, 99])) <;> cases (decide (nm ∈ gues2) && decide (40 < a.length)) <;> rfl
section
variable {K : PySem.W.Frag} {H : Hp} {x y u : Option V} {a nm : List Nat}
theorem fitsA (ha : a.length ≤ 1000) : Ev (tAndV (tCB (rIsi K) (tCons (tVar 1) (tCons (tC (.ty "str")) tNil))) (tAndV (tCB (rAll K) (tCons (tLc (iStr (tVar 1)) (gName 4) tYes (tOp (fun x y H Q => ∃ (c : Nat) (z : Str), x = .str ⟨#[c]⟩ ∧ y = .str z ∧ Q (.bl (decide (c ∈ z.cps.toList))) H) (tVar 4) (tC (tx [97, 98, 99]))) [4]) tNil)) (tOp (rI0 fun i j => .bl (decide (i ≤ j))) (tCB rLnS (tCons (tVar 1) tNil)) (tC (.int 400)))))
    ([x, some (tx a), y, u, none] : L2.St) H (.bl (fitB a)) := by
  refine ev_is (ev_andV (a := true) (ev_isi (ev_var rfl) (isA_str (k := true) _ "str" (by decide +kernel))) fun _ => ev_andV (ev_allM (g := fun c => decide (c ∈ [97, 98, 99])) (el_sta _ (ev_var rfl) (by omega) fun c H2 e2 hc => ev_inC (ev_var rfl) ev_tx) rfl) fun _ => ev_le (i := (a.length : Int)) (ev_lnS (ev_var rfl) (by omega) rfl) ev_c) ?_
  rw [Bool.true_and]
  rfl
theorem badA (ha : a.length ≤ 1000) : EvT (tOr (tNot (tB (tVar 3))) (tAnd (tTest (tOp (rIn K false) (tVar 0) (tLst (tCons (tC (tx [116, 119, 111, 109, 105, 114, 114, 111, 114, 115])) (tCons (tC (tx [101, 118, 101, 110, 109, 105, 114, 114, 111, 114, 115])) tNil))))) (tTest (tOp (rI0 fun i j => .bl (decide (j < i))) (tCB rLnS (tCons (tVar 1) tNil)) (tC (.int 40))))))
    ([some (tx nm), some (tx a), y, some (.bl (fitB a)), u] : L2.St) H (!okT nm a) := by
  rw [← ok_fit]
  exact et_or (et_not (et_B (ev_var rfl))) fun _ => et_and (et_test (ev_inTx (ys := gues2) (ev_var rfl) (el_lst (ea_cons ev_tx (ea_cons ev_tx ea_nil)) (by decide)))) fun _ => et_test (ev_gt (i := (a.length : Int)) (j := 40) (ev_lnS (ev_var rfl) (by omega) rfl) ev_c)
theorem ev_sameR {σ : L2.St} {ta tb : TE} {p : Addr} {xs ys : List (List Nat)} (ha : Ev ta σ H (.ref p)) (hp : H p = some (.tup (xs.map tx))) (hb : EvU tb σ H (ys.map tx)) (he : xs = ys) (hl : ys.length ≤ 100) : Ev (tCall spSm2 [] E0 (tCons ta (tCons tb tNil))) σ H (.bl true) := fun H1 e Q q =>
  ha H1 e _ fun H2 e2 => hb H2 (e.trans e2) _ fun r H3 hr e3 h3 => ⟨p, r, xs, ys, rfl, ((e.trans e2).trans e3) _ _ hp, h3, by rw [he], hl, fun _ H4 e4 => q H4 ((e2.trans e3).trans e4), he⟩
end
/-! ### the verdict -/
def spRight : Sp := fun vs H Q _ => ∃ v z, vs = [v, z] ∧ GV H v ∧ GV H z ∧ RetV (.bl true) H Q
theorem spDue_v {w a : List Nat} {H : Hp} (h1 : w.length ≤ 1000) (h2 : a.length ≤ 1000) : SpV spDue [tx w, tx a] H (tx (dueB w a)) := fun H1 e1 Q q E => ⟨w, a, rfl, h1, h2, fun H2 e2 => q H2 e2⟩
theorem el_names {σ : L2.St} {H : Hp} : EvL (tCall spN [] E0 tNil) σ H (names15.map tx) := fun H1 e Q q => ⟨rfl, fun p H2 hp e2 h2 => q p H2 hp e2 h2⟩
theorem q_ask {K : PySem.W.Frag} {σ : L2.St} {H : Hp} {ta : TA} {v z : V} {D : Ends} {tz : TS} {i : Nat} (ha : EvA ta σ H [v, z]) (xs : List V) (h : ∀ H1, Ex H H1 → ∀ Q, RetU xs H1 Q → spAsk K [v, z] H1 Q E0) (k : ∀ p H1, H p = none → Ex H H1 → H1 p = some (.tup xs) → tz D (σ.set i (some (.ref p))) H1) :
    tSeq (tAsg (tCall (spAsk K) [] E0 ta) (gName i)) tz D σ H := ha H (Ex.refl H) _ fun H1 e1 => h H1 e1 _ fun p H2 hp e2 h2 => k p H2 (Evl.fresh_back e1 hp) (e1.trans e2) h2
theorem sc__law_right : FnScope ["name", "value", "told", "fits", "sign"] ["name", "value"] (defScope (top 65)) := ⟨rfl, rfl, rfl, by decide +kernel, rfl, by decide +kernel, by decide +kernel⟩
theorem g__law_right {P : Program} {w : World} {K : PySem.W.Frag} {mg : Str → Option Value} {base : Heap} (T : Tp w K mg) (plain : ∀ nm ∈ names15, ∀ a, okT nm a = true → plB nm a = dueB nm a) : ∃ fd, FnG P w K mg base 7 (He.fAd K ("_law_right", none)) fd ["name", "value"] spRight ∧ Binds K fd ["name", "value"] [] ∧ PySem.W.keepIn K (.ref (He.fAd K ("_law_right", none))) = true := by
  have D__law_asked := ok__law_asked (P := P) (base := base) T
  have D__law_names := ok__law_names (P := P) (base := base) T
  have D__law_due := ok__law_due (P := P) (base := base) T
  have D__law_same := ok_same2 (P := P) (base := base) T
  obtain ⟨fd, F⟩ := T.df 33 _ rfl
  refine ⟨fd, fnG_of F sc__law_right (fun vs H Q E h => ?_) (fun cdv A outer s H vs Q hg hr h => ?_), FunD.bindsN F (fun _ _ _ _ _ _ us hl => match us, hl with | [_, _], _ => rfl), F.kp⟩
  · obtain ⟨_, _, rfl, _⟩ := h
    rfl
  · obtain ⟨v, z, rfl, gv, gz, k⟩ := h
    have hu : (A.deeper (envOfC (dd 65 "_law_right").qual (dd 65 "_law_right").scope s.heap.objs.size (He.fAd K ("_law_right", none)) cdv)).units + 65 < cLine := by have := hr.un; omega
    have hu2 : (A.deeper (envOfC (dd 65 "_law_right").qual (dd 65 "_law_right").scope s.heap.objs.size (He.fAd K ("_law_right", none)) cdv)).units + 66 < cLine := by have := hr.un; omega
    refine ⟨_, PSs.nox (pss_cons (ps_set (i := 2) sc__law_right.nd rfl (by first | exact Or.inl rfl | exact Or.inr rfl) (pe_D D__law_asked (by decide) hr (pa_cons (pv 0) (pa_cons (pv 1) pa_nil))))
  (pss_cons (ps_if (pt_cmpR (op_notInD hu) (pv 0) (pe_D0 D__law_names (by decide) hr) (by rfl)) (pss_one (ps_ret (pe_and (pe_cmpR op_eq (pe_ix (ixT K) (pv 2) pe_int (fun _ _ => rfl)) (pe_tx (l := [110, 111, 32, 115, 117, 99, 104]) (by decide +kernel)) (nomark _)) (pe_and (pe_cmpR op_isB (pe_ix (ixT K) (pv 2) pe_int (fun _ _ => rfl)) pe_bl (nomark _)) (pe_one (pe_cmpR op_eq (pe_callB (cl_repr hg hu2) rfl T.b_repr (by decide +kernel) (pa_cons (pe_ix (ixT K) (pv 2) pe_int (fun _ _ => rfl)) pa_nil)) (pe_callB (cl_repr hg hu2) rfl T.b_repr (by decide +kernel) (pa_cons (pv 0) pa_nil)) (nomark _))))))) pss_nil)
  (pss_cons (ps_set (i := 3) sc__law_right.nd rfl (by first | exact Or.inl rfl | exact Or.inr rfl) (pe_and (pe_callB (isiK K) rfl T.b_isinstance (by decide +kernel) (pa_cons (pv 1) (pa_cons (pe_bltn (v := .ty "str") (u := .type "str") rfl T.b_str (by decide +kernel) rfl) pa_nil))) (pe_and (pe_callB (allK K) rfl T.b_all (by decide +kernel) (pa_cons (pe_lc (own := [("sign", 4)]) (g := gName 4) (tt := tYes) rfl sc__law_right.nd (pi_str (pv 1)) (blkOk_by (N := ["name", "value", "told", "fits", "sign"]) (sc := defScope (top 65)) (by decide +kernel)) (fun _ _ _ _ _ => (pg_name (i := 4) sc__law_right.nd rfl (by first | exact Or.inl rfl | exact Or.inr rfl))) (fun _ _ _ _ _ => pts_nil) (fun _ _ _ _ _ => (pe_cmpR op_in_sign (pv 4) (pe_tx (l := [97, 98, 99]) (by decide +kernel)) (by rfl)))) pa_nil)) (pe_one (pe_cmpR op_le (pe_callB cl_lnS rfl T.b_len (by decide +kernel) (pa_cons (pv 1) pa_nil)) pe_int (nomark _))))))
  (pss_cons (ps_if (PW.pt (pw_or (pt_not (pt_val (pv 3))) (pw_or1 (PW.pt (pw_and (pt_cmpR (inSeq K) (pv 0) (pe_lst (pa_cons (pe_tx (l := [116, 119, 111, 109, 105, 114, 114, 111, 114, 115]) (by decide +kernel)) (pa_cons (pe_tx (l := [101, 118, 101, 110, 109, 105, 114, 114, 111, 114, 115]) (by decide +kernel)) pa_nil))) (by rfl)) (pw_and1 (pt_cmpR op_gt (pe_callB cl_lnS rfl T.b_len (by decide +kernel) (pa_cons (pv 1) pa_nil)) pe_int (nomark _)))))))) (pss_one (ps_ret (pe_and (pe_cmpR op_eq (pe_ix (ixT K) (pv 2) pe_int (fun _ _ => rfl)) (pe_tx (l := [98, 97, 100, 32, 116, 101, 120, 116]) (by decide +kernel)) (nomark _)) (pe_and (pe_cmpR op_isB (pe_ix (ixT K) (pv 2) pe_int (fun _ _ => rfl)) pe_bl (nomark _)) (pe_one (pe_cmpR op_eq (pe_callB (cl_repr hg hu2) rfl T.b_repr (by decide +kernel) (pa_cons (pe_ix (ixT K) (pv 2) pe_int (fun _ _ => rfl)) pa_nil)) (pe_callB (cl_repr hg hu2) rfl T.b_repr (by decide +kernel) (pa_cons (pv 1) pa_nil)) (nomark _))))))) pss_nil)
  (pss_one (ps_ret (pe_D D__law_same (by decide) hr (pa_cons (pv 2) (pa_cons (pe_tup (pa_cons (pe_tx (l := [116, 111, 108, 100]) (by decide +kernel)) (pa_cons (pe_D D__law_due (by decide) hr (pa_cons (pv 0) (pa_cons (pv 1) pa_nil))) pa_nil))) pa_nil))))))))), ?_⟩
    obtain ⟨dv, okv, cv⟩ := gv_dat (K := K) gv
    obtain ⟨dz, okz, cz⟩ := gv_dat (K := K) gz
    have fin : ∀ {H2 H3 : Hp} {p : Addr} {wd : List Nat} {v : V} {d : PyData} {tv : TE} {σ : L2.St}, σ[2]? = some (some (.ref p)) → H2 p = some (.tup [tx wd, v, .bl true]) → Ex H2 H3 → DatOk K H2 v d → Ev tv σ H3 v →
        Ev (tAndV (tOp rEq (tOp (rIxT K) (tVar 2) (tC (.int 0))) (tC (tx wd))) (tAndV (tOp Kb.rIsB (tOp (rIxT K) (tVar 2) (tC (.int 2))) (tC (.bl true))) (tOp rEq (tCB (rRepr K) (tCons (tOp (rIxT K) (tVar 2) (tC (.int 1))) tNil)) (tCB (rRepr K) (tCons tv tNil))))) σ H3 (.bl true) := fun {H2 H3 p wd v d tv σ} hσ hp e hd hv => by
      have ix : ∀ (j : Nat) (x : V), ([tx wd, v, .bl true] : List V)[j]? = some x → Ev (tOp (rIxT K) (tVar 2) (tC (.int (j : Int)))) σ H3 x := fun j x hj => ev_ixT (k := j) (ev_var hσ) ev_c (st_of (e _ _ hp)) hj
      refine ev_is (ev_andV (ev_eqS (ix 0 _ rfl) ev_tx) fun _ => ev_andV (b := true) (Evl.ev_op (z := .bl true) (ix 2 _ rfl) ev_c fun H4 e4 Q2 q2 => ⟨true, true, rfl, rfl, q2 H4 (Ex.refl H4)⟩) fun _ => ?_) (by simp)
      exact ev_is (Evl.ev_op (ev_repr (ix 1 _ rfl) (hd.mono e)) (ev_repr hv (hd.mono e)) (Evl.rv_eq (x := .str d.shown) (y := .str d.shown) rfl)) (by simp)
    by_cases hb : NmBad K H v
    · refine q_ask (ea_cons (ev_var rfl) (ea_cons (ev_var rfl) ea_nil)) [tx [110, 111, 32, 115, 117, 99, 104], v, .bl true] (fun H1 e1 Q2 q2 => ⟨v, z, rfl, .inl ⟨hb.mono e1, q2⟩⟩) fun p H1 hp e1 h1 => ?_
      refine q_when (b := true) (Evl.et_is (et_test (ev_niD (ev_var rfl) (okv.mono e1) el_names)) ?_) (fun _ H2 e2 => ?_) (fun y => by cases y)
      · rcases hb with ⟨a, rfl, hn⟩ | hb
        · rcases cv with ⟨a2, e2, _, rfl⟩ | ⟨hs, hno⟩
          · have e3 : a = a2 := SX.S_inj (V.str.inj e2)
            subst e3
            rw [nmD_tx, decide_eq_false hn]
            rfl
          · rw [nmD_no hno]
            rfl
        · rcases cv with ⟨a2, rfl, _, rfl⟩ | ⟨hs, hno⟩
          · exact (isA_tx_no hb).elim
          · rw [nmD_no hno]
            rfl
      · exact s_ret (by exact fin rfl h1 e2 (okv.mono e1) (by exact ev_var rfl)) fun H3 e3 => k H3 ((e1.trans e2).trans e3)
    · rcases cv with ⟨nm, rfl, hsm, rfl⟩ | ⟨hs, _⟩
      rotate_left
      · exact (hb (.inr hs)).elim
      have hn : nm ∈ names15 := Classical.byContradiction fun y => hb (.inl ⟨nm, rfl, y⟩)
      have nin : ∀ {σ : L2.St} {H1 : Hp}, σ[0]? = some (some (tx nm)) → Ex H H1 → EvT (tTest (tOp (rNotInD K) (tVar 0) (tCall spN [] E0 tNil))) σ H1 false := fun hσ e => Evl.et_is (et_test (ev_niD (ev_var hσ) (okv.mono e) el_names)) (by rw [nmD_tx, decide_eq_true hn]; rfl)
      by_cases hbz : TxBad K H nm z
      · refine q_ask (ea_cons (ev_var rfl) (ea_cons (ev_var rfl) ea_nil)) [tx [98, 97, 100, 32, 116, 101, 120, 116], z, .bl true] (fun H1 e1 Q2 q2 => ⟨_, z, rfl, .inr ⟨nm, rfl, hn, .inl ⟨hbz.mono e1, q2⟩⟩⟩) fun p H1 hp e1 h1 => ?_
        refine q_when (nin rfl e1) (fun y => by cases y) fun _ H2 e2 => ?_
        rcases cz with ⟨a, rfl, hsa, rfl⟩ | ⟨hs, _⟩
        · have ha1 := hsa.1
          have ho : okT nm a = false := by
            rcases hbz with ⟨a2, e2, _, ho⟩ | hbz
            · have e3 : a = a2 := SX.S_inj (V.str.inj e2)
              subst e3
              exact ho
            · exact (isA_tx_no hbz).elim
          refine q_asg (fitsA ha1) fun H3 e3 => ?_
          refine q_when (b := true) (Evl.et_is (badA (nm := nm) ha1) (by rw [ho]; rfl)) (fun _ H4 e4 => ?_) (fun y => by cases y)
          exact s_ret (by exact fin rfl h1 (e2.trans (e3.trans e4)) (okz.mono e1) (by exact ev_var rfl)) fun H5 e5 => k H5 ((e1.trans e2).trans ((e3.trans e4).trans e5))
        · refine q_asg (v := .bl false) (ev_andV (a := false) (b := false) (ev_isi (ev_var rfl) (hs.mono (e1.trans e2))) fun y => by cases y) fun H3 e3 => ?_
          refine q_when (b := true) (et_or (a := true) (b := false) (et_not (a := false) (et_B (ev_var rfl))) fun y => by cases y) (fun _ H4 e4 => ?_) (fun y => by cases y)
          exact s_ret (by exact fin rfl h1 (e2.trans (e3.trans e4)) (okz.mono e1) (by exact ev_var rfl)) fun H5 e5 => k H5 ((e1.trans e2).trans ((e3.trans e4).trans e5))
      · rcases cz with ⟨a, rfl, hsa, rfl⟩ | ⟨hs, _⟩
        rotate_left
        · exact (hbz (.inr hs)).elim
        have ha1 := hsa.1
        have ho : okT nm a = true := by
          cases ho : okT nm a with
          | true => rfl
          | false => exact (hbz (.inl ⟨a, rfl, hsa.1, ho⟩)).elim
        refine q_ask (ea_cons (ev_var rfl) (ea_cons (ev_var rfl) ea_nil)) [tx [116, 111, 108, 100], tx (plB nm a)] (fun H1 e1 Q2 q2 => ⟨_, _, rfl, .inr ⟨nm, rfl, hn, .inr ⟨a, rfl, ha1, ho, q2⟩⟩⟩) fun p H1 hp e1 h1 => ?_
        refine q_when (nin rfl e1) (fun y => by cases y) fun _ H2 e2 => ?_
        refine q_asg (fitsA ha1) fun H3 e3 => ?_
        refine q_when (b := false) (Evl.et_is (badA (nm := nm) ha1) (by rw [ho]; rfl)) (fun y => by cases y) fun _ H4 e4 => ?_
        have e14 := e2.trans (e3.trans e4)
        refine s_ret (ev_sameR (xs := [[116, 111, 108, 100], plB nm a]) (ys := [[116, 111, 108, 100], dueB nm a]) (ev_var rfl) (e14 _ _ h1) (Evl.eu_tup (vs := [tx [116, 111, 108, 100], tx (dueB nm a)]) (ea_cons ev_tx (ea_cons (ev_call (z := tx (dueB nm a)) (ea_cons (ev_var rfl) (ea_cons (ev_var rfl) ea_nil)) (spDue_v (by have := (name_facts nm hn).2.1; omega) ha1)) ea_nil)) (by show 2 ≤ 100000; decide)) (by rw [plain nm hn a ho]) (by show 2 ≤ 100; decide)) fun H5 e5 => k H5 (e1.trans (e14.trans e5))
end K84
set_option Elab.async false
set_option linter.all false
set_option maxRecDepth 100000
set_option maxHeartbeats 4000000
/-! K84L: the law. -/
namespace K84
open PySem PySem.Spec PyProof.Rows L2 Kb
open SX (S)
open Evl (Ev EvL EvU EvT EvA EvO Ex RetV RetL SpV SpL ev_var ev_c s_ret s_retL s_asg s_asgL q_asg q_asgL q_when s_when s_if q_if et_or et_not et_and et_B et_test ev_andV ev_notV sq_of st_of eo_some eo_none SpV ev_call ea_cons ea_nil q_ifAsg s_ifAsg q_while s_app q_app el_lst ev_is ex_l)
def spLaw (K : PySem.W.Frag) : Sp := fun vs H Q _ => ∃ (p : Addr) (ns : List Int), vs = [.ref p] ∧ SqL K H p (ns.map V.int) ∧ ns.length ≤ 63 ∧ RetV (.bl true) H Q
def szH : List Int := [15, 15, 9, 403, 3, 15, 17, 12, 26, 16, 13]
section
variable {K : PySem.W.Frag} {σ : L2.St} {H : Hp} {ta tb : TA} {D : Ends} {tz : TS} {i n : Nat} {p : Addr} {ns : List Int} {nm : List Nat} {room : Int}
theorem q_tale (ha : EvA ta σ H [.ref p, .int (n : Int), tx nm, .int room]) (hs : SqL K H p (ns.map V.int)) (hl : ns.length ≤ 63) (hn : n ≤ 100) (hr : room = 40 ∨ room = 400) (f : ∀ b : List Nat, Sm room.toNat b → ∀ H1, Ex H H1 → tz D (σ.set i (some (tx b))) H1) :
    tSeq (tAsg (tCall (spTale K) [] E0 ta) (gName i)) tz D σ H :=
  ha H (Ex.refl H) (fun vs H1 => spTale K (vs ++ []) H1 (fun v H2 => tz D (σ.set i (some v)) H2) E0) fun H1 e1 => ⟨p, ns, n, nm, room, rfl, ex_l e1 hs, hl, hn, hr, fun b hb H2 e2 => f b hb H2 (e1.trans e2)⟩
theorem q_long {c : List Nat} {kind size : Int} (ha : EvA ta σ H [.ref p, .int (n : Int), tx nm, .int 400]) (hs : SqL K H p (ns.map V.int)) (hl : ns.length ≤ 63) (hn : n ≤ 100) (hb : EvA tb σ H [tx c, .int kind, .int size]) (hc : Sm 41 c) (hk : 0 ≤ kind ∧ kind < 9) (hz : 0 ≤ size ∧ size < 403)
    (f : ∀ b : List Nat, Sm 403 b → ∀ H1, Ex H H1 → tz D (σ.set i (some (tx b))) H1) : tSeq (tAsg (tCall spLong [] E0 (tCons (tCall (spTale K) [] E0 ta) tb)) (gName i)) tz D σ H :=
  ha H (Ex.refl H) (fun vs H1 => spTale K (vs ++ []) H1 (fun v H2 => tb σ H2 fun ws H3 => spLong ((v :: ws) ++ []) H3 (fun u H4 => tz D (σ.set i (some u)) H4) E0) E0) fun H1 e1 => ⟨p, ns, n, nm, 400, rfl, ex_l e1 hs, hl, hn, .inr rfl, fun b hb1 H2 e2 =>
    hb H2 (e1.trans e2) _ fun H3 e3 => ⟨b, c, kind, size, rfl, hb1, hc, hk, hz, fun u hu H4 e4 => f u hu H4 ((e1.trans e2).trans (e3.trans e4))⟩⟩
theorem q_gvB {a : List Nat} {kind spot : Int} (ha : EvA ta σ H [tx a, .int kind, .int spot]) (h1 : Sm 400 a) (h2 : 0 ≤ kind ∧ kind < 16) (f : ∀ v H1, Ex H H1 → GV H1 v → tz D (σ.set i (some v)) H1) : tSeq (tAsg (tCall spBad [] E0 ta) (gName i)) tz D σ H :=
  ha H (Ex.refl H) (fun vs H1 => spBad (vs ++ []) H1 (fun v H2 => tz D (σ.set i (some v)) H2) E0) fun H1 e1 => ⟨a, kind, spot, rfl, h1, h2, fun v H2 e2 g => f v H2 (e1.trans e2) g⟩
theorem q_gvO {kind spot letter : Int} (ha : EvA ta σ H [tx nm, .int kind, .int spot, .int letter]) (h1 : nm ∈ names15) (h2 : 0 ≤ kind ∧ kind < 17) (h3 : 0 ≤ letter ∧ letter < 26) (f : ∀ v H1, Ex H H1 → GV H1 v → tz D (σ.set i (some v)) H1) : tSeq (tAsg (tCall spOdd [] E0 ta) (gName i)) tz D σ H :=
  ha H (Ex.refl H) (fun vs H1 => spOdd (vs ++ []) H1 (fun v H2 => tz D (σ.set i (some v)) H2) E0) fun H1 e1 => ⟨nm, kind, spot, letter, rfl, h1, h2, h3, fun v H2 e2 g => f v H2 (e1.trans e2) g⟩
theorem right_v {v z : V} (h1 : GV H v) (h2 : GV H z) : SpV spRight [v, z] H (.bl true) := fun H1 e1 Q q E => ⟨v, z, rfl, h1.mono e1, h2.mono e1, fun H2 e2 => q H2 e2⟩
theorem name_gv (h : nm ∈ names15) : GV H (tx nm) := gv_tx ⟨by have := (name_facts nm h).2.1; omega, fun c hc => by simpa using List.all_eq_true.mp (name_facts nm h).2.2 c hc⟩
end
theorem sc_law : FnScope ["script", "names", "head", "one", "two", "long_one", "bad", "odd", "name", "value"] ["script"] (defScope (top 69)) := ⟨rfl, rfl, rfl, by decide +kernel, rfl, by decide +kernel, by decide +kernel⟩
theorem g_law {P : Program} {w : World} {K : PySem.W.Frag} {mg : Str → Option Value} {base : Heap} (T : Tp w K mg) (plain : ∀ nm ∈ names15, ∀ a, okT nm a = true → plB nm a = dueB nm a) {fd : FuncData} (F : FunD K "law" "law" (defArgs (top 69)) (defBody (top 69)) (defScope (top 69)) [] [] (He.fAd K ("law", none)) fd) : FnG P w K mg base 8 (He.fAd K ("law", none)) fd ["script"] (spLaw K) := by
  have D__law_names := ok__law_names (P := P) (base := base) T
  have D__law_digits := ok__law_digits (P := P) (base := base) T
  have D__law_cell := ok__law_cell (P := P) (base := base) T
  have D__law_tale := ok__law_tale (P := P) (base := base) T
  have D__law_long := ok__law_long (P := P) (base := base) T
  have D__law_bad := ok__law_bad (P := P) (base := base) T
  have D__law_odd := ok__law_odd (P := P) (base := base) T
  obtain ⟨fdR, G1, GB, GK⟩ := g__law_right (P := P) (base := base) T plain
  refine fnG_of F sc_law (fun vs H Q E h => ?_) (fun cdv A outer s H vs Q hg hr h => ?_)
  · obtain ⟨_, _, rfl, _⟩ := h
    rfl
  · obtain ⟨p, ns, rfl, hs, hl, k⟩ := h
    refine ⟨_, PSs.nox (pss_cons (ps_set (i := 1) sc_law.nd rfl (by first | exact Or.inl rfl | exact Or.inr rfl) (pe_D0 D__law_names (by decide) hr))
  (pss_cons (ps_set (i := 2) sc_law.nd rfl (by first | exact Or.inl rfl | exact Or.inr rfl) (pe_D D__law_digits (by decide) hr (pa_cons (pe_D D__law_cell (by decide) hr (pa_cons (pv 0) (pa_cons pe_int pa_nil))) (pa_cons (pe_lst (pa_cons pe_int (pa_cons pe_int (pa_cons pe_int (pa_cons pe_int (pa_cons pe_int (pa_cons pe_int (pa_cons pe_int (pa_cons pe_int (pa_cons pe_int (pa_cons pe_int (pa_cons pe_int pa_nil)))))))))))) pa_nil))))
  (pss_cons (ps_set (i := 3) sc_law.nd rfl (by first | exact Or.inl rfl | exact Or.inr rfl) (pe_D D__law_tale (by decide) hr (pa_cons (pv 0) (pa_cons pe_int (pa_cons (pe_ix (ixL K) (pv 1) (pe_ix (ixL K) (pv 2) pe_int (fun _ _ => rfl)) (fun _ _ => rfl)) (pa_cons pe_int pa_nil))))))
  (pss_cons (ps_set (i := 4) sc_law.nd rfl (by first | exact Or.inl rfl | exact Or.inr rfl) (pe_D D__law_tale (by decide) hr (pa_cons (pv 0) (pa_cons pe_int (pa_cons (pe_ix (ixL K) (pv 1) (pe_ix (ixL K) (pv 2) pe_int (fun _ _ => rfl)) (fun _ _ => rfl)) (pa_cons pe_int pa_nil))))))
  (pss_cons (ps_set (i := 5) sc_law.nd rfl (by first | exact Or.inl rfl | exact Or.inr rfl) (pe_D D__law_long (by decide) hr (pa_cons (pe_D D__law_tale (by decide) hr (pa_cons (pv 0) (pa_cons pe_int (pa_cons (pe_ix (ixL K) (pv 1) (pe_ix (ixL K) (pv 2) pe_int (fun _ _ => rfl)) (fun _ _ => rfl)) (pa_cons pe_int pa_nil))))) (pa_cons (pe_op op_adS (pv 3) (pe_ix ix_str (pe_tx (l := [97, 98, 99]) (by decide +kernel)) (pe_ix (ixL K) (pv 2) pe_int (fun _ _ => rfl)) (fun _ _ => rfl))) (pa_cons (pe_ix (ixL K) (pv 2) pe_int (fun _ _ => rfl)) (pa_cons (pe_ix (ixL K) (pv 2) pe_int (fun _ _ => rfl)) pa_nil))))))
  (pss_cons (ps_set (i := 6) sc_law.nd rfl (by first | exact Or.inl rfl | exact Or.inr rfl) (pe_D D__law_bad (by decide) hr (pa_cons (pv 4) (pa_cons (pe_ix (ixL K) (pv 2) pe_int (fun _ _ => rfl)) (pa_cons (pe_ix (ixL K) (pv 2) pe_int (fun _ _ => rfl)) pa_nil)))))
  (pss_cons (ps_set (i := 7) sc_law.nd rfl (by first | exact Or.inl rfl | exact Or.inr rfl) (pe_D D__law_odd (by decide) hr (pa_cons (pe_ix (ixL K) (pv 1) (pe_ix (ixL K) (pv 2) pe_int (fun _ _ => rfl)) (fun _ _ => rfl)) (pa_cons (pe_ix (ixL K) (pv 2) pe_int (fun _ _ => rfl)) (pa_cons (pe_ix (ixL K) (pv 2) pe_int (fun _ _ => rfl)) (pa_cons (pe_ix (ixL K) (pv 2) pe_int (fun _ _ => rfl)) pa_nil))))))
  (pss_cons (ps_for PassesOwn.never rfl (piLK K (pv 1)) (pg_name (i := 8) sc_law.nd rfl (by first | exact Or.inl rfl | exact Or.inr rfl)) (pss_one (ps_for PassesOwn.never rfl (piLK K (pe_lst (pa_cons (pv 3) (pa_cons (pv 4) (pa_cons (pv 3) (pa_cons (pv 5) (pa_cons (pv 6) (pa_cons (pv 4) pa_nil)))))))) (pg_name (i := 9) sc_law.nd rfl (by first | exact Or.inl rfl | exact Or.inr rfl)) (pss_one (ps_if (pt_not (pt_val (pe_callG G1 hg (hr.mono (by decide)) (T.gg 33 _ rfl) GK GB (pa_cons (pv 8) (pa_cons (pv 9) pa_nil))))) (pss_one (ps_ret pe_bl)) pss_nil)))))
  (pss_one (ps_ret (pe_and (pe_callG G1 hg (hr.mono (by decide)) (T.gg 33 _ rfl) GK GB (pa_cons (pv 7) (pa_cons (pv 4) pa_nil))) (pe_and (pe_callG G1 hg (hr.mono (by decide)) (T.gg 33 _ rfl) GK GB (pa_cons (pv 7) (pa_cons (pv 6) pa_nil))) (pe_and (pe_callG G1 hg (hr.mono (by decide)) (T.gg 33 _ rfl) GK GB (pa_cons (pv 7) (pa_cons (pv 3) pa_nil))) (pe_one (pe_callG G1 hg (hr.mono (by decide)) (T.gg 33 _ rfl) GK GB (pa_cons (pe_ix (ixL K) (pv 1) (pe_ix (ixL K) (pv 2) pe_int (fun _ _ => rfl)) (fun _ _ => rfl)) (pa_cons (pv 3) pa_nil))))))))))))))))), ?_⟩
    refine q_asgL el_names fun N H1 hN e1 h1 => ?_
    have hs1 := ex_l e1 hs
    refine q_dig (sz := szH) (n := 2) (ev_var rfl) hs1 hl ev_c (by decide) (el_lst (ea_cons ev_c (ea_cons ev_c (ea_cons ev_c (ea_cons ev_c (ea_cons ev_c (ea_cons ev_c (ea_cons ev_c (ea_cons ev_c (ea_cons ev_c (ea_cons ev_c (ea_cons ev_c ea_nil))))))))))) (by decide)) (by decide) (by decide) fun rs R H2 hrl hrs hR e2 h2 => ?_
    obtain ⟨r0, g0, a0, b0⟩ := hrs 0 15 rfl
    obtain ⟨r1, g1, a1, b1⟩ := hrs 1 15 rfl
    obtain ⟨r2, g2, a2, b2⟩ := hrs 2 9 rfl
    obtain ⟨r3, g3, a3, b3⟩ := hrs 3 403 rfl
    obtain ⟨r4, g4, a4, b4⟩ := hrs 4 3 rfl
    obtain ⟨r5, g5, a5, b5⟩ := hrs 5 15 rfl
    obtain ⟨r6, g6, a6, b6⟩ := hrs 6 17 rfl
    obtain ⟨r7, g7, a7, b7⟩ := hrs 7 12 rfl
    obtain ⟨r8, g8, a8, b8⟩ := hrs 8 26 rfl
    obtain ⟨r9, g9, a9, b9⟩ := hrs 9 16 rfl
    obtain ⟨r10, g10, a10, b10⟩ := hrs 10 13 rfl
    have row : ∀ {σ : L2.St} {H3 : Hp} {j : Nat} {r : Int}, σ[2]? = some (some (.ref R)) → Ex H2 H3 → rs[j]? = some r → Ev (tOp (rIxL K) (tVar 2) (tC (.int (j : Int)))) σ H3 (.int r) := fun hσ e hj => ev_ixL (ev_var hσ) ev_c (sq_of (e _ _ h2)) (gmap2 hj)
    have name : ∀ {r : Int}, 0 ≤ r → r < 15 → ∃ nm ∈ names15, ∀ {σ : L2.St} {H3 : Hp} {j : Nat}, σ[1]? = some (some (.ref N)) → σ[2]? = some (some (.ref R)) → Ex H2 H3 → rs[j]? = some r → Ev (tOp (rIxL K) (tVar 1) (tOp (rIxL K) (tVar 2) (tC (.int (j : Int))))) σ H3 (tx nm) := fun {r} h0 h1' => by
      have hlt : r.toNat < names15.length := by show _ < 15; omega
      refine ⟨names15[r.toNat], List.getElem_mem hlt, fun {σ H3 j} hσ1 hσ2 e hj => ?_⟩
      exact ev_ixL (k := r.toNat) (ev_var hσ1) (ev_is (row hσ2 e hj) (by congr 1; omega)) (sq_of (e _ _ (e2 _ _ h1))) (by rw [List.getElem?_map, List.getElem?_eq_getElem hlt]; rfl)
    have hs2 := ex_l e2 hs1
    obtain ⟨n0, m0, v0⟩ := name a0 b0
    obtain ⟨n1, m1, v1⟩ := name a1 b1
    obtain ⟨n5, m5, v5⟩ := name a5 b5
    obtain ⟨n10, m10, v10⟩ := name a10 (by omega)
    refine q_tale (n := 0) (ea_cons (ev_var rfl) (ea_cons ev_c (ea_cons (v0 rfl rfl (Ex.refl _) g0) (ea_cons ev_c ea_nil)))) hs2 hl (by decide) (.inl rfl) fun one hone H3 e3 => ?_
    refine q_tale (n := 1) (ea_cons (ev_var rfl) (ea_cons ev_c (ea_cons (v1 rfl rfl e3 g1) (ea_cons ev_c ea_nil)))) (ex_l e3 hs2) hl (by decide) (.inl rfl) fun two htwo H4 e4 => ?_
    have hone : Sm 40 one := hone
    have htwo : Sm 40 two := htwo
    have e24 := e3.trans e4
    have hlet : Sm 1 [abcAt r4] := ⟨Nat.le_refl 1, fun c hc => by
      have hc2 : c = abcAt r4 := by simpa using hc
      rcases abcAt_ok ⟨a4, b4⟩ with h | h | h <;> omega⟩
    refine q_long (n := 3) (ea_cons (ev_var rfl) (ea_cons ev_c (ea_cons (v10 rfl rfl e24 g10) (ea_cons ev_c ea_nil)))) (ex_l e24 hs2) hl (by decide) (ea_cons (ev_adS (ev_var rfl) (ev_abc (row rfl e24 g4) ⟨a4, b4⟩) (by have := hone.1; show one.length + 1 ≤ _; omega)) (ea_cons (row rfl e24 g2) (ea_cons (row rfl e24 g3) ea_nil))) (Sm.app hone hlet) ⟨a2, b2⟩ ⟨a3, b3⟩ fun long hlong H5 e5 => ?_
    have e25 := e24.trans e5
    refine q_gvB (ea_cons (ev_var rfl) (ea_cons (row rfl e25 g9) (ea_cons (row rfl e25 g3) ea_nil))) (htwo.up (by decide)) ⟨a9, b9⟩ fun bad H6 e6 gbad => ?_
    have e26 := e25.trans e6
    refine q_gvO (ea_cons (v5 rfl rfl e26 g5) (ea_cons (row rfl e26 g6) (ea_cons (row rfl e26 g7) (ea_cons (row rfl e26 g8) ea_nil)))) m5 ⟨a6, b6⟩ ⟨a8, b8⟩ fun odd H7 e7 godd => ?_
    have e27 := e26.trans e7
    have go : ∀ {H8 : Hp}, GV H8 (tx one) := gv_tx (hone.up (by decide))
    have gt : ∀ {H8 : Hp}, GV H8 (tx two) := gv_tx (htwo.up (by decide))
    have glo : ∀ {H8 : Hp}, GV H8 (tx long) := gv_tx (hlong.up (by decide))
    refine Evl.q_forLn (a := N) (xs := names15.map tx) (ev_var rfl) (sq_of (e27 _ _ (e2 _ _ h1))) (fun i σ H' => ∃ y8 y9, σ = [some (.ref p), some (.ref N), some (.ref R), some (tx one), some (tx two), some (tx long), some bad, some odd, y8, y9] ∧ Ex H7 H')
      (fun H8 e8 => ⟨none, none, rfl, e8⟩) (fun i σ H' hi hw => ?_) (fun i x σ H' hx hw => ?_) (fun σ H' hw => ?_)
    · obtain ⟨_, _, _, e⟩ := hw
      exact sq_of (e _ _ (e27 _ _ (e2 _ _ h1)))
    · obtain ⟨y8, y9, rfl, e⟩ := hw
      have hnm : ∃ nm ∈ names15, x = tx nm := by
        have := List.mem_of_getElem? hx
        obtain ⟨nm, h, rfl⟩ := List.mem_map.mp this
        exact ⟨nm, h, rfl⟩
      obtain ⟨nm, hm, rfl⟩ := hnm
      refine Evl.s_forNL (xs := [tx one, tx two, tx one, tx long, bad, tx two]) (el_lst (ea_cons (ev_var rfl) (ea_cons (ev_var rfl) (ea_cons (ev_var rfl) (ea_cons (ev_var rfl) (ea_cons (ev_var rfl) (ea_cons (ev_var rfl) ea_nil)))))) (by simp)) (fun q i σ H2' => ∃ y9, σ = [some (.ref p), some (.ref N), some (.ref R), some (tx one), some (tx two), some (tx long), some bad, some odd, some (tx nm), y9] ∧ Ex H' H2' ∧ H2' q = some (.lst [tx one, tx two, tx one, tx long, bad, tx two]))
        (fun q H8 hq e8 h8 => ⟨_, rfl, e8, h8⟩) (fun q i σ H2' hi hw => ?_) (fun q i z σ H2' hz hw => ?_) (fun q σ H2' hw => ?_)
      · obtain ⟨_, _, _, h8⟩ := hw
        exact sq_of h8
      · obtain ⟨y9, rfl, e8, h8⟩ := hw
        have gzz : ∀ z ∈ [tx one, tx two, tx one, tx long, bad, tx two], GV H2' z := fun z hz => by
          simp only [List.mem_cons, List.not_mem_nil, or_false] at hz
          rcases hz with rfl | rfl | rfl | rfl | rfl | rfl
          · exact go
          · exact gt
          · exact go
          · exact glo
          · exact gbad.mono (e7.trans (e.trans e8))
          · exact gt
        refine s_when (et_not (et_B (ev_call (z := .bl true) (ea_cons (ev_var rfl) (ea_cons (ev_var rfl) ea_nil)) (right_v (name_gv hm) (gzz z (List.mem_of_getElem? hz)))))) (fun y => by cases y) fun _ H9 e9 => ?_
        exact ⟨_, rfl, e8.trans e9, e9 _ _ h8⟩
      · obtain ⟨y9, rfl, e8, h8⟩ := hw
        exact ⟨_, _, rfl, e.trans e8⟩
    · obtain ⟨y8, y9, rfl, e⟩ := hw
      have god : GV H' odd := godd.mono e
      have gba : GV H' bad := gbad.mono (e7.trans e)
      refine s_ret (ev_is (ev_andV (ev_call (z := .bl true) (ea_cons (ev_var rfl) (ea_cons (ev_var rfl) ea_nil)) (right_v god gt)) fun _ => ev_andV (ev_call (z := .bl true) (ea_cons (ev_var rfl) (ea_cons (ev_var rfl) ea_nil)) (right_v god gba)) fun _ => ev_andV (ev_call (z := .bl true) (ea_cons (ev_var rfl) (ea_cons (ev_var rfl) ea_nil)) (right_v god go)) fun _ =>
        ev_call (z := .bl true) (ea_cons (v5 rfl rfl (e27.trans e) g5) (ea_cons (ev_var rfl) ea_nil)) (right_v (name_gv m5) go)) rfl) fun H8 e8 => k H8 ((e1.trans e2).trans (e27.trans (e.trans e8)))
end K84
set_option Elab.async false
set_option linter.all false
set_option maxRecDepth 100000
set_option maxHeartbeats 4000000
/-! K84M: the plain law: the program's tests and the law's verdict are the same on texts over abc. -/
namespace K84
open PySem PySem.Spec PyProof.Rows L2 Kb
open SX (S)
/-! ### the places of c -/
theorem spo_cons (c : Nat) (r : List Nat) : spoB (c :: r) = (if c = 99 then [0] else []) ++ (spoB r).map (· + 1) := by
  unfold spoB
  rw [List.length_cons, List.range_succ_eq_map, List.filter_cons]
  have e0 : decide ([(c :: r).getD 0 0] = [99]) = decide (c = 99) := by simp
  have e1 : (List.filter (fun k => decide ([(c :: r).getD k 0] = [99])) (List.map Nat.succ (List.range r.length))) = ((List.range r.length).filter fun k => decide ([r.getD k 0] = [99])).map (· + 1) := by
    rw [List.filter_map]
    rfl
  rw [e0, e1]
  by_cases h : c = 99
  · rw [if_pos (decide_eq_true h), if_pos h]
    rfl
  · rw [if_neg (by simpa using h)]
    rw [if_neg h]
    rfl
theorem spo_len : ∀ a : List Nat, (spoB a).length = a.count 99
  | [] => rfl
  | c :: r => by
    rw [spo_cons, List.length_append, List.length_map, spo_len r, List.count_cons]
    by_cases h : c = 99
    · rw [if_pos h, h]
      simp
      omega
    · rw [if_neg h]
      rw [if_neg (by simpa using h)]
      simp
theorem spo_none {a : List Nat} (h : 99 ∉ a) : spoB a = [] := List.eq_nil_of_length_eq_zero (by rw [spo_len]; exact List.count_eq_zero.mpr h)
theorem spo_mid (v : List Nat) (hv : 99 ∉ v) : ∀ u : List Nat, 99 ∉ u → spoB (u ++ 99 :: v) = [u.length]
  | [], _ => by
    show spoB (99 :: v) = [0]
    rw [spo_cons, spo_none hv]
    rfl
  | c :: u, h => by
    have h1 : c ≠ 99 := fun z => h (z ▸ List.mem_cons_self)
    show spoB (c :: (u ++ 99 :: v)) = [u.length + 1]
    rw [spo_cons, if_neg h1, spo_mid v hv u fun z => h (List.mem_cons_of_mem _ z)]
    rfl
theorem pre99 (c : Nat) (r : List Nat) : TL.pre [99] (c :: r) = decide (c = 99) := by
  unfold TL.pre
  show (([c] : List Nat) == [99]) = _
  by_cases h : c = 99
  · subst h
    rfl
  · rw [decide_eq_false h]
    simpa using h
theorem spl_count : ∀ (a acc : List Nat), (TL.spl [99] 0 acc a).length = a.count 99 + 1
  | [], acc => by
    rw [TL.spl_nil]
    rfl
  | c :: r, acc => by
    by_cases h : c = 99
    · rw [TL.spl_hit (by rw [pre99]; exact decide_eq_true h)]
      show (TL.spl [99] 0 [] r).length + 1 = _
      rw [spl_count r [], h, List.count_cons_self]
    · rw [TL.spl_miss (by rw [pre99]; exact decide_eq_false h), spl_count r, List.count_cons_of_ne h]
theorem one_c {a : List Nat} (h : a.count 99 = 1) : ∃ u v, a = u ++ 99 :: v ∧ splc a = [u, v] ∧ spoB a = [u.length] := by
  obtain ⟨u, v, e⟩ := List.append_of_mem (List.count_pos_iff.mp (by omega : 0 < a.count 99))
  subst e
  rw [List.count_append, List.count_cons_self] at h
  have hu : 99 ∉ u := List.count_eq_zero.mp (by omega)
  have hv : 99 ∉ v := List.count_eq_zero.mp (by omega)
  refine ⟨u, v, rfl, ?_, spo_mid v hv u hu⟩
  have z := TL.spl_join (s := 99) (S := []) (parts := [u, v]) (by simp) (fun p hp => by
    rcases List.mem_cons.mp hp with rfl | last
    · exact hu
    · have : p = v := by simpa using last
      rw [this]
      exact hv)
  exact z
theorem in_sta (u v : List Nat) : inTx u v = staB u v := by
  unfold inTx staB
  rw [Bool.eq_iff_iff, PySem.StrLaws.found_iff, List.any_eq_true]
  constructor
  · rintro ⟨i, hi, hs⟩
    rw [SX.S_len, SX.S_len] at hi
    rw [PySem.StrLaws.subAt_eq, tl_S, tl_S, SX.S_len] at hs
    refine ⟨i, List.mem_range.mpr (by omega), decide_eq_true ?_⟩
    rw [List.drop_take, Nat.add_sub_cancel_left]
    exact eq_of_beq hs
  · rintro ⟨i, hi, hs⟩
    have hi2 := List.mem_range.mp hi
    have hs2 := of_decide_eq_true hs
    refine ⟨i, ?_, ?_⟩
    · rw [SX.S_len, SX.S_len]
      omega
    · rw [PySem.StrLaws.subAt_eq, tl_S, tl_S, SX.S_len]
      rw [List.drop_take, Nat.add_sub_cancel_left] at hs2
      rw [hs2]
      simp
theorem fou_same (a : List Nat) : fouB a = fouG a := by
  unfold fouB fouG lonB
  by_cases h : a.count 99 = 1
  · obtain ⟨u, v, e, e1, e2⟩ := one_c h
    have e3 : spo0 a = u.length := by unfold spo0; rw [e2]; rfl
    rw [e1, e3, e2]
    have t1 : a.take u.length = u := by rw [e]; exact List.take_left
    have t2 : a.drop (u.length + 1) = v := by
      rw [e, List.drop_append]
      simp
    rw [t1, t2]
    show (decide ((2 : Int) = 2) && inTx u v) = (decide ((1 : Int) = 1) && staB u v)
    rw [in_sta]
    rfl
  · have h1 : ¬ ((splc a).length : Int) = 2 := by
      unfold splc
      rw [spl_count]
      omega
    have h2 : ¬ ((spoB a).length : Int) = 1 := by
      rw [spo_len]
      omega
    rw [decide_eq_false h1, decide_eq_false h2]
    rfl
theorem cop_same (a : List Nat) : copB a = copG a := by
  unfold copB copG lonB
  by_cases h : a.count 99 = 1
  · obtain ⟨u, v, e, e1, e2⟩ := one_c h
    have e3 : spo0 a = u.length := by unfold spo0; rw [e2]; rfl
    rw [e1, e3, e2]
    have t1 : a.take u.length = u := by rw [e]; exact List.take_left
    have t2 : a.drop (u.length + 1) = v := by
      rw [e, List.drop_append]
      simp
    rw [t1, t2]
    rfl
  · have h1 : ¬ ((splc a).length : Int) = 2 := by
      unfold splc
      rw [spl_count]
      omega
    have h2 : ¬ ((spoB a).length : Int) = 1 := by
      rw [spo_len]
      omega
    rw [decide_eq_false h1, decide_eq_false h2]
    rfl
/-! ### borders -/
theorem end_is (a : List Nat) {m : Nat} (hm : m ≤ a.length) : Txt.endswith (S a) (S (a.take m)) = decide (a.take m = a.drop (a.length - m)) := by
  have hl : (S (a.take m)).length = m := by rw [SX.S_len, List.length_take]; omega
  unfold Txt.endswith
  rw [hl, SX.S_len, PySem.StrLaws.subAt_eq, tl_S, tl_S, hl]
  have e1 : decide (0 + m ≤ a.length) = true := decide_eq_true (by omega)
  have e2 : (a.drop (a.length - m)).take m = a.drop (a.length - m) := List.take_of_length_le (by rw [List.length_drop]; omega)
  rw [e1, e2, Bool.true_and]
  by_cases h : a.take m = a.drop (a.length - m)
  · rw [decide_eq_true h, ← h]
    simp
  · rw [decide_eq_false h]
    simpa using fun z => h z.symm
theorem bor_same (a : List Nat) : borB a = borG a := by
  unfold borB borG
  refine Bool.eq_iff_iff.mpr ?_
  rw [List.any_eq_true, List.any_eq_true]
  constructor
  · rintro ⟨i, hi, h⟩
    have := List.mem_range.mp hi
    exact ⟨i, hi, by rw [← end_is a (by omega)]; exact h⟩
  · rintro ⟨i, hi, h⟩
    have := List.mem_range.mp hi
    exact ⟨i, hi, by rw [end_is a (by omega)]; exact h⟩
/-! ### heights -/
def hgt (a : List Nat) : Int := ((a.count 97 : Nat) : Int) - ((a.count 98 : Nat) : Int)
theorem hgt_cons (c : Nat) (r : List Nat) (d : Int) : d + hgt (c :: r) = balS d c + hgt r := by
  unfold hgt balS
  rw [List.count_cons, List.count_cons]
  by_cases h1 : c = 97
  · subst h1
    simp
    omega
  · by_cases h2 : c = 98
    · subst h2
      simp
      omega
    · rw [if_neg h2, if_neg h1, if_neg (by simpa using h1), if_neg (by simpa using h2)]
      simp
theorem bal_is : ∀ (a : List Nat) (d : Int), 0 ≤ d → (balB d a = true ↔ (∀ k, k ≤ a.length → 0 ≤ d + hgt (a.take k)) ∧ d + hgt a = 0)
  | [], d, h0 => by
    show decide (d = 0) = true ↔ _
    rw [decide_eq_true_iff]
    constructor
    · rintro rfl
      exact ⟨fun k _ => by rw [List.take_nil]; decide, by decide⟩
    · rintro ⟨_, h⟩
      have : hgt [] = 0 := by decide
      omega
  | c :: r, d, h0 => by
    show (if balS d c < 0 then false else balB (balS d c) r) = true ↔ _
    by_cases h : balS d c < 0
    · rw [if_pos h]
      refine ⟨fun z => (by cases z), fun z => ?_⟩
      have z1 := z.1 1 (by rw [List.length_cons]; omega)
      have e : (c :: r).take 1 = c :: [] := by rfl
      rw [e, hgt_cons] at z1
      have : hgt [] = 0 := by decide
      omega
    · rw [if_neg h, bal_is r (balS d c) (by omega), hgt_cons]
      refine and_congr ⟨fun z k hk => ?_, fun z k hk => ?_⟩ Iff.rfl
      · cases k with
        | zero =>
          have : hgt [] = 0 := by decide
          rw [List.take_zero]
          omega
        | succ k =>
          rw [List.take_succ_cons, hgt_cons]
          exact z k (by rw [List.length_cons] at hk; omega)
      · have := z (k + 1) (by rw [List.length_cons]; omega)
        rw [List.take_succ_cons, hgt_cons] at this
        exact this
theorem bal_same (a : List Nat) : balB 0 a = balG a := by
  rw [Bool.eq_iff_iff, bal_is a 0 (Int.le_refl 0)]
  unfold balG
  rw [Bool.and_eq_true, decide_eq_true_iff, decide_eq_true_iff]
  have hlen : 0 < (heiB a).length := by
    unfold heiB
    rw [List.length_map]
    rw [List.length_range]
    omega
  obtain ⟨m1, m2⟩ := minI_ok (heiB a) hlen
  have mem : ∀ z, z ∈ heiB a ↔ ∃ k, k ≤ a.length ∧ hgt (a.take k) = z := fun z => by
    unfold heiB
    rw [List.mem_map]
    constructor
    · rintro ⟨k, hk, e⟩
      have := List.mem_range.mp hk
      exact ⟨k, by omega, e⟩
    · rintro ⟨k, hk, e⟩
      exact ⟨k, List.mem_range.mpr (by omega), e⟩
  have z0 : (0 : Int) ∈ heiB a := (mem 0).mpr ⟨0, Nat.zero_le _, by rw [List.take_zero]; decide⟩
  constructor
  · rintro ⟨h1, h2⟩
    refine ⟨?_, by rw [Int.zero_add] at h2; exact h2⟩
    have l1 := m2 0 z0
    obtain ⟨k, hk, e⟩ := (mem _).mp m1
    have l2 := h1 k hk
    omega
  · rintro ⟨h1, h2⟩
    refine ⟨fun k hk => ?_, by rw [Int.zero_add]; exact h2⟩
    have := m2 _ ((mem _).mpr ⟨k, hk, rfl⟩)
    omega
/-! ### thirds -/
theorem thi_same (a : List Nat) : thiB a = thiG a := by
  unfold thiB thiG
  refine decide_eq_decide.mpr ⟨fun h => ?_, fun h => ?_⟩
  · have hc : a.count 97 = a.length / 3 := by
      conv => lhs; rw [h]
      rw [List.count_append, List.count_append, List.count_replicate_self, List.count_replicate, List.count_replicate]
      simp
    rw [hc]
    exact h
  · have hl : a.length / 3 = a.count 97 := by
      have long := congrArg List.length h
      rw [List.length_append, List.length_append, List.length_replicate, List.length_replicate, List.length_replicate] at long
      omega
    rw [hl]
    exact h
/-! ### powers -/
theorem pow_even : ∀ n : _root_.Fin 401, 1 < n.val ∧ n.val % 2 = 0 → powG (n.val / 2) = powG n.val := by decide +kernel
theorem pow_odd : ∀ n : _root_.Fin 401, ¬ (1 < n.val ∧ n.val % 2 = 0) → decide (n.val = 1) = powG n.val := by decide +kernel
theorem pow_same : ∀ n : Nat, n ≤ 400 → powB n = powG n := by
  intro n
  refine Nat.strongRecOn (motive := fun n => n ≤ 400 → powB n = powG n) n ?_
  · intro n ih hn
    unfold powB
    by_cases h : 1 < n ∧ n % 2 = 0
    · rw [dif_pos h, ih (n / 2) (by omega) (by omega)]
      exact pow_even ⟨n, by omega⟩ h
    · rw [dif_neg h]
      exact pow_odd ⟨n, by omega⟩ h
/-! ### even mirrors -/
theorem lev_ev (a : List Nat) : ∀ k s, s ∈ levN a k ↔ s ≤ k ∧ (evN a k).getD s false = true
  | 0, s => by
    show s ∈ [0] ↔ _
    rw [List.mem_singleton]
    constructor
    · rintro rfl
      exact ⟨Nat.le_refl _, rfl⟩
    · rintro ⟨h, _⟩
      omega
  | k + 1, s => by
    have ih := lev_ev a k
    have same : ((levN a k).any fun b => decide ((k + 1 - b) % 2 = 0) && mirB ((a.take (k + 1)).drop b)) = ((evSt a (evN a k) (k + 1)).any fun s => mirB ((a.take (k + 1)).drop s)) := by
      refine Bool.eq_iff_iff.mpr ?_
      rw [List.any_eq_true, List.any_eq_true]
      constructor
      · rintro ⟨b, hb, h⟩
        obtain ⟨h1, h2⟩ := Bool.and_eq_true_iff.mp h
        obtain ⟨h3, h4⟩ := (ih b).mp hb
        refine ⟨b, List.mem_filter.mpr ⟨List.mem_range.mpr (by omega), ?_⟩, h2⟩
        rw [h4, h1]
        rfl
      · rintro ⟨b, hb, h⟩
        obtain ⟨h1, h2⟩ := List.mem_filter.mp hb
        obtain ⟨h3, h4⟩ := Bool.and_eq_true_iff.mp h2
        have := List.mem_range.mp h1
        refine ⟨b, (ih b).mpr ⟨by omega, h3⟩, ?_⟩
        rw [h4, h]
        rfl
    have hl := evN_len a k
    have step : evN a (k + 1) = evN a k ++ [(evSt a (evN a k) (k + 1)).any fun s => mirB ((a.take (k + 1)).drop s)] := rfl
    have old : s ≤ k → (evN a (k + 1)).getD s false = (evN a k).getD s false := fun hs => by
      rw [step]
      simp only [List.getD]
      rw [List.getElem?_append_left (by omega)]
    have new : (evN a (k + 1)).getD (k + 1) false = ((evSt a (evN a k) (k + 1)).any fun s => mirB ((a.take (k + 1)).drop s)) := by
      rw [step]
      simp only [List.getD]
      rw [List.getElem?_append_right (by omega), hl, Nat.sub_self]
      rfl
    unfold levN
    rw [same]
    by_cases hs : s ≤ k
    · rw [old hs]
      have hne : s ≠ k + 1 := by omega
      by_cases hb : ((evSt a (evN a k) (k + 1)).any fun s => mirB ((a.take (k + 1)).drop s)) = true
      · rw [if_pos hb, List.mem_append, List.mem_singleton, ih s]
        constructor
        · rintro (h | h)
          · exact ⟨by omega, h.2⟩
          · exact absurd h hne
        · rintro ⟨_, h⟩
          exact Or.inl ⟨hs, h⟩
      · rw [if_neg hb, ih s]
        exact ⟨fun h => ⟨by omega, h.2⟩, fun h => ⟨hs, h.2⟩⟩
    · by_cases hk : s = k + 1
      · subst hk
        rw [new]
        by_cases hb : ((evSt a (evN a k) (k + 1)).any fun s => mirB ((a.take (k + 1)).drop s)) = true
        · rw [if_pos hb]
          exact ⟨fun _ => ⟨Nat.le_refl _, hb⟩, fun _ => List.mem_append_right _ (List.mem_singleton.mpr rfl)⟩
        · rw [if_neg hb, ih]
          exact ⟨fun h => absurd h.1 (by omega), fun h => absurd h.2 hb⟩
      · refine ⟨fun h => ?_, fun h => absurd h.1 (by omega)⟩
        have := levN_le a (k + 1) s (by unfold levN; rw [same]; exact h)
        omega
theorem evm_same (a : List Nat) : evmB a = levB a := by
  unfold evmB levB
  have h := lev_ev a a.length a.length
  have e : ((a.length : Int) ∈ (levN a a.length).map fun b : Nat => (b : Int)) ↔ a.length ∈ levN a a.length := by
    rw [List.mem_map]
    constructor
    · rintro ⟨b, hb, e⟩
      have : b = a.length := by omega
      rw [← this]
      rw [this] at hb
      rw [this]
      exact hb
    · intro hb
      exact ⟨_, hb, rfl⟩
  rw [Bool.eq_iff_iff, decide_eq_true_iff, e, h]
  exact ⟨fun z => ⟨Nat.le_refl _, z⟩, fun z => z.2⟩
theorem eve_same (a : List Nat) : eveB a = eveG a := by
  unfold eveB eveG
  rw [cnt_S, cnt_S]
theorem test_good (nm a : List Nat) (hn : nm ∈ names13) (hl : a.length ≤ 400) : testB nm a = goodB nm a := by
  unfold names13 at hn
  simp only [List.mem_cons, List.not_mem_nil, or_false] at hn
  rcases hn with rfl | rfl | rfl | rfl | rfl | rfl | rfl | rfl | rfl | rfl | rfl | rfl | rfl
  · rfl
  · exact fou_same a
  · exact bor_same a
  · rfl
  · exact bal_same a
  · exact eve_same a
  · exact cop_same a
  · exact thi_same a
  · exact pow_same a.length hl
  · rfl
  · rfl
  · rfl
  · exact evm_same a
theorem plain : ∀ nm ∈ names15, ∀ a, okT nm a = true → plB nm a = dueB nm a := by
  intro nm hn a ho
  have hl : a.length ≤ 400 := by
    unfold okT at ho
    simp only [Bool.and_eq_true, decide_eq_true_eq] at ho
    exact ho.1.1
  unfold plB dueB
  by_cases he : nm ∈ ends2
  · rw [if_pos he, if_pos (show nm ∈ ([[99, 104, 97, 110, 116], [114, 111, 117, 110, 100, 115]] : List (List Nat)) from he)]
  · rw [if_neg he, if_neg (show ¬ nm ∈ ([[99, 104, 97, 110, 116], [114, 111, 117, 110, 100, 115]] : List (List Nat)) from he), test_good nm a (n13_of nm hn he) hl]
end K84
set_option Elab.async false
set_option linter.all false
set_option maxRecDepth 100000
set_option maxHeartbeats 4000000
/-! K84End: the statement. -/
namespace K84
open PySem PySem.Spec PyProof.Rows L2 Kb
theorem facts {P : Program} {w : World} {K : PySem.W.Frag} {h : Heap} {mg : Str → Option Value} {f : Addr} (X : K.In h) (G : h.Ns mainGlobals mg) (hfa : mg ("law" : Str) = some (.ref f)) (c : He.SaysT fa fn tabs w K) (e : ex K = true) :
    ∃ fd : FuncData, (∀ (s : Shared) (v : Value), BindsTo s fd ⟨[v], []⟩ [("script", v)]) ∧ ∀ base : Heap, K.In base → base.Ns mainGlobals mg → FnG P w K mg base 8 f fd ["script"] (spLaw K) := by
  have T := tp_of X G c e
  obtain ⟨fd, F⟩ := T.df 37 _ rfl
  have e2 : mg ("law" : Str) = some (.ref (He.fAd K ("law", none))) := T.gg 37 _ rfl
  obtain rfl : f = He.fAd K ("law", none) := Value.ref.inj (Option.some.inj (hfa.symm.trans e2))
  have b := FunD.bindsA (ps := ["script"]) F fun _ _ _ _ _ _ us hl => match us, hl with | [_], _ => rfl
  exact ⟨fd, fun s v => b s [v] rfl, fun base _ _ => g_law T plain F⟩
end K84
open PySem PySem.Calls PySem.W PyProof.Rows
theorem PySem.Challenge.cw_pilerecall_k84_tests_of_texts_whole_holds : PySem.Challenge.rw_pilerecall_k84_tests_of_texts_whole.Holds := by
  w_on; o_law
  refine HandSHeadRun.head_any (r := K84.R) (q := view K84.R.prog [69]) (H := K84.hk) (ob := K84.ob) (M := 12000) (loose := K84.names) (d := HandSHeadRun.topDef K84.R.prog 69) (kwd := []) K84.ob_eq
    (by kernel_rfl) (fun s => by kernel_rfl) K84.run (by kernel_rfl) (by kernel_rfl) (by kernel_rfl) (by rfl) (by first | assumption | decide +kernel) (by decide +kernel) ⟨rfl, rfl, rfl, rfl, rfl, by decide +kernel⟩ ?hw ?hc
  case hw => w_witness2
  case hc =>
    refine Kb.walkG (l := PySem.Challenge.rw_pilerecall_k84_tests_of_texts_whole) (n := 63) (k := 8) (x := "script") rfl (by decide) (by kernel_rfl) ⟨rfl, by decide, by decide⟩ ?F
    intro w mg fa h Y G hmg0
    obtain ⟨K, KX, c, e⟩ := Y
    have hmg : mg ("law" : PySem.Str) = some (.ref fa) := by
      have e : (HandSHeadRun.topDef K84.R.prog 69).name = ("law" : PySem.Str) := by kernel_rfl
      rw [← e]
      exact hmg0
    obtain ⟨fd, hb, hF⟩ := K84.facts (P := (PySem.Challenge.rw_pilerecall_k84_tests_of_texts_whole).prog) (w := w) KX G hmg c e
    exact ⟨K, fd, K84.spLaw K, KX, hb, fun H a ns hl _ hS => ⟨a, ns, rfl, hS, hl, fun _ _ => rfl⟩, hF⟩
