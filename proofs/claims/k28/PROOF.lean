import PyProof.Rows.All
import Wide.All
import OpenK.AllK
import Wide.FinOn
import KE.KStateDown
import Lean
import HandS.ForMost
import HandS.ForExc
import HandS.HeadHook1
import KE.KDictKeyed
import KE.KeyNested
import HandS.Head0
import HandS.Head1
import HandS.Head2
import HandS.HeadEnd
import HandS.HeadHook2
import HandS.Defaults
import HandS.TupAny
import HandS.Deep
import HandS.IsInst
import PyProof.FitsBits
import PyProof.Rows.RuleB_pow
import KE.LtData
import PyProof.P3In
import HandS.NoneIn
import PyProof.StrLawsIn
import HandS.Walk
import HandS.Zip
import HandS.Style
import KE.GoesEnum
import HandS.WordsDict
import HandS.Conv
import HandS.Text
import HandS.Strs
import HandS.SetKeys
import PyProof.AutoSeq1
import KE.KDictList
import PyProof.DictUpdate
import HandS.More
import KE.SortData
import PyProof.Rows.SortWalk
import PyProof.ReprRoads
import PyProof.CallFns
import HandS.DictComp
import HandS.Star
import HandS.EndBits
import HandS.ExcSuper
import HandS.ExcInit
import KE.KExcSuper
import HandS.TupLen
import HandS.ExcIs
import HandS.ExcField
import HandS.Property
import HandS.StrMore
import HandS.Codes
import KE.KUnpackStar
import HandS.TupSets
import HandS.SetFor
import KE.IntBitsLaws
import HandS.TupMul
import KE.GoesMore
import PySem.Challenge.RW_spoilorder_k28_commands_known_by_hand
set_option Elab.async false
set_option linter.all false
set_option maxRecDepth 100000
set_option maxHeartbeats 0
/-! DLH: the looks at the heap behind the head -/
namespace L2
namespace DL
open PySem PySem.Spec PyProof.Rows
def fieldOf (c : Str) : Str := if c = "TooMany" then "number" else if c = "BadText" then "line" else "value"
def noListB (K : PySem.W.Frag) : Bool := K.all fun p => !(p.2.cls == Value.type "list")
def pga (K : PySem.W.Frag) (C : Addr) (m : Str) : Addr := match PySem.W.recIn K (He.ma K C m) "property" with
  | some (.ref g :: _) => g
  | _ => 0
structure DefA where
  ad : PySem.W.Frag → Addr
  name : Str
  qual : Str
  st : Stmt
  pl : Bool
abbrev FnA : Type := Option (Str × Str × Arguments × FuncBody × Scope × Addr × Addr)
def obsA (K : PySem.W.Frag) (a : Addr) : FnA := match K.lookup a with
  | some ⟨_, _, .func fd, _⟩ => some (fd.name, fd.qualname, fd.params, fd.body, fd.scope, fd.globals, fd.builtins)
  | _ => none
def DefA.val (d : DefA) : FnA := some (d.name, d.qual, defArgs d.st, .stmts (defBody d.st), defScope d.st, mainGlobals, builtinsNs)
def plainA (K : PySem.W.Frag) (a : Addr) (q : Str) : Bool := PySem.W.keepIn K (.ref a) && (match K.lookup a with
  | some ⟨_, _, .func fd, _⟩ => fd.closure.isEmpty && (PySem.W.codeIn K fd.code q && (He.dflB K fd.defaults [] && He.kwdB K fd.kwdefaults []))
  | _ => false)
def DefA.ok (K : PySem.W.Frag) (d : DefA) : Bool := !d.pl || plainA K (d.ad K) d.qual
def eqV (a b : Option (Option Value)) : Bool := decide (a = b)
def propB (K : PySem.W.Frag) (c f : Str) : Bool := eqV (PySem.W.findIn K (.ref (He.ga K c)) f) (some (some (.ref (He.ma K (He.ga K c) f)))) && (eqV (PySem.W.specialIn K (.ref (He.ma K (He.ga K c) f)) "__get__") (some (some (.builtin "property.__get__"))) &&
  (decide (PySem.W.takesIn K (.ref (He.ma K (He.ga K c) f)) = some true) && (match PySem.W.recIn K (He.ma K (He.ga K c) f) "property" with
    | some (.ref _ :: _) => true
    | _ => false)))
def excB (K : PySem.W.Frag) (D : Addr) : Bool := eqV (PySem.W.findIn K (.ref D) "__getattribute__") (some (some (.builtin "BaseException.__getattribute__"))) && (eqV (PySem.W.findIn K (.ref D) "__getattr__") (some none) && (decide (PySem.W.subIn K (.ref D) (.type "BaseException") = some true) && (PySem.W.hasDictIn K D &&
  (eqV (PySem.W.findIn K (.ref D) "__class__") (some (some (.builtin "object.__class__"))) && (eqV (PySem.W.specialIn K (.builtin "object.__class__") "__get__") (some (some (.builtin "getset_descriptor.__get__"))) && (decide (PySem.W.takesIn K (.builtin "object.__class__") = some true) && decide (PySem.W.mroIn K D (.type "object") = some true)))))))
def isxB (K : PySem.W.Frag) (C : Str) (t : List (Str × Bool)) : Bool := t.all fun p => excB K (He.ga K p.1) && decide (PySem.W.kitOne K (.ref (He.ga K p.1)) (.ref (He.ga K C)) = some p.2)
def exmB (K : PySem.W.Frag) (C : Str) (t : List (Str × Bool)) : Bool := t.all fun p => decide (PySem.W.exmOne K (.ref (He.ga K p.1)) (.ref (He.ga K C)) = some p.2)
def oexB (K : PySem.W.Frag) (C : Addr) : Bool := (match K.lookup C with
  | some ⟨.type n, _, .cls cd, sl⟩ => decide (n = "type") && (match cd.mro, sl.toList with
    | .ref C' :: bm, [_, _, _, _, some (.builtin n), _] => (decide (C' = C) && (decide (n = "ValueError.__new__") && (!cd.hasDel && (cd.hasDict && PySem.HandSPX.refsVE bm))))
    | _, _ => false)
  | _ => false) && (eqV (PySem.W.findIn K (.ref C) "__setattr__") (some (some (.builtin "object.__setattr__"))) && (decide (PySem.W.subIn K (.ref C) (.type "BaseException") = some true) && (decide (PySem.W.typeIn K (.ref C) = some (.type "type")) && PySem.W.keepIn K (.ref C))))
def supB (file : Str) (K : PySem.W.Frag) (C f : Addr) (q fld : Str) : Bool := (match K.lookup f with
  | some ⟨_, _, .func fd, _⟩ => decide (fd.defaults = .none) && ((match fd.closure with
    | [(n, cc)] => decide (n = "__class__") && (match K.lookup cc with
      | some ⟨_, _, .cell (some (.ref C')), _⟩ => decide (C' = C)
      | _ => false)
    | _ => false) && (match fd.code with
    | .ref cda => PySem.W.codeIn K (.ref cda) q && (match K.lookup cda with
      | some ⟨_, _, .fields vs, _⟩ => (match (vs[2]? : Option Value) with
        | some (.str z _) => file == z
        | _ => false)
      | _ => false)
    | _ => false))
  | _ => false) && (oexB K C && (eqV (PySem.W.ks_superIn K C C "__init__") (some (some (.builtin "ValueError.__init__"))) && (decide (PySem.W.subIn K (.ref C) (.type "ValueError") = some true) && (decide (PySem.W.mroIn K C (.ref C) = some true) && (eqV (PySem.W.nsIn K mainGlobals "super") (some none) &&
    (eqV (PySem.W.nsIn K cStatics "thirdparty.any") (some none) && (eqV (PySem.W.findIn K (.ref C) fld) (some none) && (eqV (PySem.W.findIn K (.ref C) "__init__") (some (some (.ref f))) && decide (PySem.W.typeIn K (.ref f) = some (.type "function"))))))))))
def asX (g : Addr → Option Obj) : Nat → List Addr
  | 0 => [mainGlobals, cStatics]
  | n + 1 => He.growD g (asX g n)
abbrev AlX : Type := Bool × List FnA
def obsX (fa : List He.Fa) (bs : List (PySem.W.Frag → Bool)) (fn : List DefA) (K : PySem.W.Frag) : AlX := ((fa.all fun f => f.ok K) && ((bs.all fun b => b K) && ((fn.all fun d => d.ok K) && noListB K)), fn.map fun d => obsA K (d.ad K))
def valX (fn : List DefA) : AlX := (true, fn.map DefA.val)
def SaysX (fa : List He.Fa) (bs : List (PySem.W.Frag → Bool)) (fn : List DefA) (K : PySem.W.Frag) : Prop := obsX fa bs fn K = valX fn
def obsXG (n : Nat) (fa : List He.Fa) (bs : List (PySem.W.Frag → Bool)) (fn : List DefA) (g : Addr → Option Obj) : AlX := obsX fa bs fn (He.frG g (asX g n))
def hookX (n : Nat) (fa : List He.Fa) (bs : List (PySem.W.Frag → Bool)) (fn : List DefA) : PySem.W.Hook where
  α := AlX
  obs := fun s => obsXG n fa bs fn s.heap.get?
  val := fun _ => valX fn
  says := fun _ h => ∃ K : PySem.W.Frag, K.In h ∧ SaysX fa bs fn K
  of := fun _ _ e => ⟨_, He.frG_in, e⟩
  keeps := fun _ _ _ ⟨K, hK, c⟩ k => ⟨K, PySem.W.Frag.In.keeps hK k, c⟩
theorem obsXG_eq {n : Nat} {fa : List He.Fa} {bs : List (PySem.W.Frag → Bool)} {fn : List DefA} {g : Addr → Option Obj} {s : Shared} (h : ∀ a, g a = s.heap.get? a) : obsXG n fa bs fn g = (hookX n fa bs fn).obs s := by
  have e : g = s.heap.get? := funext h
  rw [e] <;> rfl
end DL
end L2

namespace G
open PySem PySem.Spec PyProof.Rows L2 L2.DL
abbrev PW : Program := PySem.Challenge.pw_spoilorder_k28_commands_known_by_hand
def top (i : Nat) : Stmt := PySem.Challenge.pw_spoilorder_k28_commands_known_by_hand.main.body.getD i (.Pass ⟨0, 0, 0, 0⟩)
abbrev fn_0 : DefA := ⟨fun K => He.ga K "_law_jar", "_law_jar", "_law_jar", (top 75), true⟩
abbrev fn_1 : DefA := ⟨fun K => He.ga K "_law_take", "_law_take", "_law_take", (top 76), true⟩
abbrev fn_2 : DefA := ⟨fun K => He.ga K "_law_of", "_law_of", "_law_of", (top 77), true⟩
abbrev fn_3 : DefA := ⟨fun K => He.ma K (He.ga K "BadText") "__init__", "__init__", "BadText.__init__", (inClass (top 9) 0), false⟩
abbrev fn_4 : DefA := ⟨fun K => He.ga K "split_line", "split_line", "split_line", (top 69), true⟩
abbrev fn_5 : DefA := ⟨fun K => He.ma K (He.ga K "Source") "__init__", "__init__", "Source.__init__", (inClass (top 71) 0), true⟩
abbrev fn_6 : DefA := ⟨fun K => He.ma K (He.ga K "Source") "is_next", "is_next", "Source.is_next", (inClass (top 71) 2), true⟩
abbrev fn_7 : DefA := ⟨fun K => He.ma K (He.ga K "Source") "demand", "demand", "Source.demand", (inClass (top 71) 1), true⟩
abbrev fn_8 : DefA := ⟨fun K => He.ga K "is_name", "is_name", "is_name", (top 15), true⟩
abbrev fn_9 : DefA := ⟨fun K => He.ga K "is_plain", "is_plain", "is_plain", (top 70), true⟩
abbrev fn_10 : DefA := ⟨fun K => He.ma K (He.ga K "Source") "take", "take", "Source.take", (inClass (top 71) 3), true⟩
abbrev fn_11 : DefA := ⟨fun K => He.ma K (He.ga K "Source") "read_cell", "read_cell", "Source.read_cell", (inClass (top 71) 5), true⟩
abbrev fn_12 : DefA := ⟨fun K => He.ma K (He.ga K "Source") "has_cell", "has_cell", "Source.has_cell", (inClass (top 71) 10), true⟩
abbrev fn_13 : DefA := ⟨fun K => He.ma K (He.ga K "Source") "read_if", "read_if", "Source.read_if", (inClass (top 71) 12), true⟩
abbrev fn_14 : DefA := ⟨fun K => He.ma K (He.ga K "Source") "read_command", "read_command", "Source.read_command", (inClass (top 71) 11), true⟩
abbrev fn_15 : DefA := ⟨fun K => He.ma K (He.ga K "Source") "read_block", "read_block", "Source.read_block", (inClass (top 71) 9), true⟩
abbrev fn_16 : DefA := ⟨fun K => He.ma K (He.ga K "Source") "read_edge", "read_edge", "Source.read_edge", (inClass (top 71) 7), true⟩
abbrev fn_17 : DefA := ⟨fun K => He.ma K (He.ga K "Source") "read_check", "read_check", "Source.read_check", (inClass (top 71) 8), true⟩
abbrev fn_18 : DefA := ⟨fun K => He.ma K (He.ga K "Source") "read_group", "read_group", "Source.read_group", (inClass (top 71) 6), true⟩
abbrev fn_19 : DefA := ⟨fun K => He.ma K (He.ga K "Source") "read_all", "read_all", "Source.read_all", (inClass (top 71) 4), true⟩
abbrev fn_20 : DefA := ⟨fun K => He.ga K "is_tuple", "is_tuple", "is_tuple", (top 17), true⟩
abbrev fn_21 : DefA := ⟨fun K => He.ga K "is_ascending", "is_ascending", "is_ascending", (top 18), true⟩
abbrev fn_22 : DefA := ⟨fun K => He.ga K "are_names", "are_names", "are_names", (top 20), true⟩
abbrev fn_23 : DefA := ⟨fun K => He.ga K "is_group", "is_group", "is_group", (top 27), true⟩
abbrev fn_24 : DefA := ⟨fun K => He.ga K "are_different", "are_different", "are_different", (top 19), true⟩
abbrev fn_25 : DefA := ⟨fun K => He.ga K "are_groups", "are_groups", "are_groups", (top 28), true⟩
abbrev fn_26 : DefA := ⟨fun K => He.ma K (He.ga K "BadShop") "__init__", "__init__", "BadShop.__init__", (inClass (top 3) 0), false⟩
abbrev fn_27 : DefA := ⟨fun K => He.ma K (He.ga K "Shop") "__init__", "__init__", "Shop.__init__", (inClass (top 29) 0), true⟩
abbrev fn_28 : DefA := ⟨fun K => He.ma K (He.ga K "Glass") "__init__", "__init__", "Glass.__init__", (inClass (top 73) 0), true⟩
abbrev fn_29 : DefA := ⟨fun K => He.ga K "is_integer", "is_integer", "is_integer", (top 13), true⟩
abbrev fn_30 : DefA := ⟨fun K => He.ma K (He.ga K "Glass") "is_item", "is_item", "Glass.is_item", (inClass (top 73) 11), true⟩
abbrev fn_31 : DefA := ⟨fun K => He.ma K (He.ga K "BadOrder") "__init__", "__init__", "BadOrder.__init__", (inClass (top 8) 0), false⟩
abbrev fn_32 : DefA := ⟨fun K => He.ga K "is_between", "is_between", "is_between", (top 14), true⟩
abbrev fn_33 : DefA := ⟨fun K => He.ma K (He.ga K "BadMany") "__init__", "__init__", "BadMany.__init__", (inClass (top 5) 0), false⟩
abbrev fn_34 : DefA := ⟨fun K => pga K (He.ga K "Glass") "cells", "cells", "Glass.cells", (inClass (top 73) 6), true⟩
abbrev fn_35 : DefA := ⟨fun K => He.ma K (He.ga K "Glass") "names_of", "names_of", "Glass.names_of", (inClass (top 73) 7), true⟩
abbrev fn_36 : DefA := ⟨fun K => He.ma K (He.ga K "Glass") "first_words", "first_words", "Glass.first_words", (inClass (top 73) 8), true⟩
abbrev fn_37 : DefA := ⟨fun K => He.ma K (He.ga K "Glass") "start", "start", "Glass.start", (inClass (top 73) 9), true⟩
abbrev fn_38 : DefA := ⟨fun K => He.ma K (He.ga K "NoWorker") "__init__", "__init__", "NoWorker.__init__", (inClass (top 6) 0), false⟩
abbrev fn_39 : DefA := ⟨fun K => He.ma K (He.ga K "Glass") "check_worker", "check_worker", "Glass.check_worker", (inClass (top 73) 10), true⟩
abbrev fn_40 : DefA := ⟨fun K => He.ma K (He.ga K "NoItem") "__init__", "__init__", "NoItem.__init__", (inClass (top 7) 0), false⟩
abbrev fn_41 : DefA := ⟨fun K => He.ga K "is_word", "is_word", "is_word", (top 16), true⟩
abbrev fn_42 : DefA := ⟨fun K => He.ma K (He.ga K "NoCheck") "__init__", "__init__", "NoCheck.__init__", (inClass (top 4) 0), false⟩
abbrev fn_43 : DefA := ⟨fun K => He.ma K (He.ga K "Shop") "group_of", "group_of", "Shop.group_of", (inClass (top 29) 4), true⟩
abbrev fn_44 : DefA := ⟨fun K => He.ga K "fails", "fails", "fails", (top 72), true⟩
abbrev fn_45 : DefA := ⟨fun K => He.ma K (He.ga K "Glass") "run_on", "run_on", "Glass.run_on", (inClass (top 73) 13), true⟩
abbrev fn_46 : DefA := ⟨fun K => He.ma K (He.ga K "Glass") "after", "after", "Glass.after", (inClass (top 73) 12), true⟩
abbrev fn_47 : DefA := ⟨fun K => He.ma K (He.ga K "Glass") "outcomes", "outcomes", "Glass.outcomes", (inClass (top 73) 16), true⟩
abbrev fn_48 : DefA := ⟨fun K => He.ma K (He.ga K "Glass") "freshened", "freshened", "Glass.freshened", (inClass (top 73) 14), true⟩
abbrev fn_49 : DefA := ⟨fun K => He.ma K (He.ga K "Glass") "cleared", "cleared", "Glass.cleared", (inClass (top 73) 15), true⟩
abbrev fn_50 : DefA := ⟨fun K => He.ga K "_law_stays_right", "_law_stays_right", "_law_stays_right", (top 78), true⟩
abbrev fn_51 : DefA := ⟨fun K => He.ga K "_law_opens_right", "_law_opens_right", "_law_opens_right", (top 79), true⟩
abbrev fn_52 : DefA := ⟨fun K => He.ga K "_law_turns_right", "_law_turns_right", "_law_turns_right", (top 80), true⟩
abbrev fn_53 : DefA := ⟨fun K => He.ga K "law", "law", "law", (top 81), true⟩
def fa_p0 : List He.Fa := [.free "len", .free "min", .free "max", .free "range", .free "abs", .free "int", .glo "_law_jar", .glo "_law_take", .glo "_law_of", .free "isinstance", .free "str", .glo "BadText", .cls "Glass", .noat "Glass" "own_text", .str "FEED" "\n", .str "BLANK" " ", .int "STEP" (2), .glo "split_line", .cls "Source", .noat "Source" "split_lines", .noat "Source" "at", .noat "Source" "words_of", .noat "Source" "shared_names", .noat "Source" "told_groups", .noat "Source" "opens", .noat "Source" "closes", .noat "Source" "told_checks", .mkr "Source", .glo "Source", .noat "Glass" "source"]
def fa_p1 : List He.Fa := [.meth "Source" "is_next", .str "SHARED" "shared", .str "CELL" "cell", .meth "Source" "demand", .int "LEAST_CELL" (4), .int "MOST_CELL" (5), .int "MOST_SIGNS" (8), .str "SMALL" "abcdefghijklmnopqrstuvwxyz", .free "all", .glo "is_name", .glo "RESERVED", .glo "is_plain", .free "set", .int "MOST_CELLS" (8), .meth "Source" "take", .free "tuple", .meth "Source" "read_cell", .str "GROUP" "group", .int "MOST_GROUPS_glasses" (3), .int "PAIR_glasses" (2), .int "EDGE_DEEP" (1), .glo "COMMANDS", .int "MOST_COMMANDS" (10), .str "IF" "if", .int "QUADRUPLE" (4), .str "IS" "=", .meth "Source" "has_cell", .str "ELSE" "else", .meth "Source" "read_if", .str "COPY" "copy"]
def fa_p2 : List He.Fa := [.str "TO" "to", .str "FAIL" "fail", .str "SET" "set", .int "TRIPLE" (3), .meth "Source" "read_command", .meth "Source" "read_block", .int "MOST_IFS" (2), .str "CLOSE" "close", .int "COMMAND_DEEP" (2), .meth "Source" "read_edge", .str "OPEN" "open", .str "CHECK" "check", .int "MOST_CHECKS_glasses" (8), .glo "EDITIONS", .int "MOST_ITEMS" (5), .meth "Source" "read_check", .free "sorted", .meth "Source" "read_group", .meth "Source" "read_all", .glo "is_tuple", .int "MOST_GROUPS_shops" (3), .int "PAIR_shops" (2), .free "zip", .glo "is_ascending", .glo "are_names", .int "MOST_IN_A_GROUP" (4), .glo "is_group", .int "MOST_CHECKS_shops" (5), .free "enumerate", .glo "are_different"]
def fa_p3 : List He.Fa := [.glo "are_groups", .glo "BadShop", .cls "Shop", .noat "Shop" "own_groups", .noat "Shop" "group_by_check", .mkr "Shop", .glo "Shop", .noat "Glass" "own_shop", .mkr "Glass", .glo "Glass", .int "MOST_RUNS" (12), .free "bool", .glo "is_integer", .meth "Glass" "is_item", .glo "BadOrder", .glo "is_between", .int "MOST_WORKERS" (3), .glo "BadMany", .meth "Glass" "names_of", .meth "Glass" "first_words", .str "NO_GROUP" "", .meth "Glass" "start", .glo "NoWorker", .meth "Glass" "check_worker", .glo "NoItem", .free "dict", .glo "is_word", .glo "NoCheck", .meth "Shop" "group_of", .glo "fails"]
def fa_p4 : List He.Fa := [.str "SKIP" "skip", .str "PASS" "pass", .meth "Glass" "run_on", .meth "Glass" "after", .meth "Glass" "outcomes", .meth "Glass" "freshened", .meth "Glass" "cleared", .glo "_law_stays_right", .glo "_law_opens_right", .glo "_law_turns_right", .glo "law"]
def fa : List He.Fa := fa_p0 ++ fa_p1 ++ fa_p2 ++ fa_p3 ++ fa_p4
def bs_p0 : List (PySem.W.Frag → Bool) := [(fun K => supB PW.main.file K (He.ga K "BadText") (He.ma K (He.ga K "BadText") "__init__") "BadText.__init__" (fieldOf "BadText")), (fun K => He.tupB K "RESERVED" [.str "cell", .str "shared", .str "group", .str "open", .str "close", .str "check", .str "set", .str "copy", .str "to", .str "want", .str "fail", .str "if", .str "else"]), (fun K => He.tupB K "COMMANDS" [.str "set", .str "copy", .str "want", .str "fail", .str "if"]), (fun K => He.tupB K "EDITIONS" [.str "1", .str "2", .str "3", .str "4", .str "5", .str "6", .str "7", .str "8", .str "9"]), (fun K => supB PW.main.file K (He.ga K "BadShop") (He.ma K (He.ga K "BadShop") "__init__") "BadShop.__init__" (fieldOf "BadShop")), (fun K => supB PW.main.file K (He.ga K "BadOrder") (He.ma K (He.ga K "BadOrder") "__init__") "BadOrder.__init__" (fieldOf "BadOrder")), (fun K => supB PW.main.file K (He.ga K "BadMany") (He.ma K (He.ga K "BadMany") "__init__") "BadMany.__init__" (fieldOf "BadMany")), (fun K => propB K "Glass" "cells"), (fun K => supB PW.main.file K (He.ga K "NoWorker") (He.ma K (He.ga K "NoWorker") "__init__") "NoWorker.__init__" (fieldOf "NoWorker")), (fun K => supB PW.main.file K (He.ga K "NoItem") (He.ma K (He.ga K "NoItem") "__init__") "NoItem.__init__" (fieldOf "NoItem")), (fun K => supB PW.main.file K (He.ga K "NoCheck") (He.ma K (He.ga K "NoCheck") "__init__") "NoCheck.__init__" (fieldOf "NoCheck"))]
def bs : List (PySem.W.Frag → Bool) := bs_p0
def fn_p0 : List DefA := [fn_0, fn_1, fn_2, fn_3, fn_4, fn_5, fn_6, fn_7, fn_8, fn_9, fn_10, fn_11, fn_12, fn_13, fn_14, fn_15, fn_16, fn_17, fn_18, fn_19, fn_20, fn_21, fn_22, fn_23, fn_24, fn_25, fn_26, fn_27, fn_28, fn_29]
def fn_p1 : List DefA := [fn_30, fn_31, fn_32, fn_33, fn_34, fn_35, fn_36, fn_37, fn_38, fn_39, fn_40, fn_41, fn_42, fn_43, fn_44, fn_45, fn_46, fn_47, fn_48, fn_49, fn_50, fn_51, fn_52, fn_53]
def fn : List DefA := fn_p0 ++ fn_p1
def loose_p0 : List PySem.Str := ["_wall", "SpoilError", "BadShop", "NoCheck", "BadMany", "NoWorker", "NoItem", "BadOrder", "BadText", "SMALL", "MOST_SIGNS", "is_integer", "is_between", "is_name", "is_word", "is_tuple", "is_ascending", "are_different", "are_names", "MOST_GROUPS_shops", "MOST_IN_A_GROUP", "MOST_CHECKS_shops", "MOST_EDITION", "PAIR_shops", "is_group", "are_groups", "Shop", "FEED", "BLANK", "STEP"]
def loose_p1 : List PySem.Str := ["CELL", "SHARED", "GROUP", "OPEN", "CLOSE", "CHECK", "SET", "COPY", "TO", "WANT", "FAIL", "IF", "ELSE", "IS", "RESERVED", "COMMANDS", "EDITIONS", "PASS", "SKIP", "NO_GROUP", "EDGE_DEEP", "COMMAND_DEEP", "PAIR_glasses", "TRIPLE", "QUADRUPLE", "LEAST_CELL", "MOST_CELL", "MOST_CELLS", "MOST_GROUPS_glasses", "MOST_CHECKS_glasses"]
def loose_p2 : List PySem.Str := ["MOST_ITEMS", "MOST_COMMANDS", "MOST_IFS", "MOST_WORKERS", "MOST_RUNS", "split_line", "is_plain", "Source", "fails", "Glass", "_law_jar", "_law_take", "_law_of", "_law_stays_right", "_law_opens_right", "_law_turns_right"]
def loose : List PySem.Str := loose_p0 ++ loose_p1 ++ loose_p2
abbrev R : PySem.W.OpenRow := PySem.W.OpenLaw.row PySem.Challenge.rw_spoilorder_k28_commands_known_by_hand
abbrev hk : PySem.W.Hook := hookX 6 fa bs fn
def ob (s : PySem.W.SharedT) : AlX := obsXG 6 fa bs fn (HandSHeadRun.getT s)
theorem ob_eq (s : PySem.W.SharedT) : ob s = hk.obs s.abs := obsXG_eq (HandSHeadRun.getT_eq s)
theorem run (w : World) : HandSHeadRun.RunEq R (PySem.W.view R.prog [81]) hk ob 6000 loose w := by
  intro os
  kernel_rfl
end G

/-! DL1: data, cells, the meaning's monad, and how they lie in the abstract heap -/
namespace L2
namespace DL
open PySem PySem.Spec PyProof.Rows
/-- the world that a text speaks of: its hashes -/
class HasW where
  w : World
variable [HasW]

/-- data: what never changes -/
inductive D where
  | non
  | bl (b : Bool)
  | int (i : Int)
  | str (s : Str)
  | tup (l : List D)
  | lst (l : List D)
  | dct (l : List (D × D))
  | dcN (l : List (D × D))
  | set (l : List D)
  | obj (c : Str) (fs : List (Str × D))
  | exc (c : Str) (d : D)
deriving Inhabited
/-- a value: data, or one of the def's own cells, or a pair of both -/
inductive Vl where
  | dat (d : D)
  | ref (i : Nat)
  | pr (d : D) (i : Nat)
deriving Inhabited
/-- what a cell holds -/
inductive GO where
  | lst (l : List Vl)
  | dct (l : List (D × Vl))
  | dcN (l : List (D × Vl))
  | ins (c : Str) (fs : List (Str × Vl))
  | gone
deriving Inhabited
def GO.on : GO → Bool
  | .gone => false
  | _ => true
abbrev Gh := List GO
abbrev Ev := List (Option Vl)

/-- how an evaluation ends -/
inductive Rs (α : Type) where
  | ok (a : α) (G : Gh)
  | ex (c : Str) (d : D) (G : Gh)
  | no
abbrev M (α : Type) := Gh → Rs α
def ret {α : Type} (a : α) : M α := fun G => .ok a G
def andThen {α β : Type} (m : M α) (f : α → M β) : M β := fun G => match m G with
  | .ok a G' => f a G'
  | .ex c d G' => .ex c d G'
  | .no => .no
def stuck {α : Type} : M α := fun _ => .no
def opt {α : Type} : Option α → M α
  | some a => ret a
  | none => stuck
/-- how a statement ends -/
inductive SR where
  | nx (ρ : Ev) (G : Gh)
  | rt (v : Vl) (G : Gh)
  | bk (ρ : Ev) (G : Gh)
  | ct (ρ : Ev) (G : Gh)
  | ex (c : Str) (d : D) (ρ : Ev) (G : Gh)
  | no

/-! ### data in the abstract heap -/
def keyD : Key → D
  | .inl i => .int i
  | .inr x => .str x
/-! tuples as keys -/
mutual
def nkOf : D → Option NestedKey
  | .non => some .none
  | .bl b => some (.num (if b = true then 1 else 0))
  | .int i => some (.num i)
  | .str x => some (.text x)
  | .tup l => (nkOfs l).map .tup
  | .lst _ => none
  | .dct _ => none
  | .dcN _ => none
  | .set _ => none
  | .obj _ _ => none
  | .exc _ _ => none
def nkOfs : List D → Option (List NestedKey)
  | [] => some []
  | d :: l => match nkOf d with
    | some k => (nkOfs l).map (k :: ·)
    | none => none
end
/-- a tuple that may be a key -/
def nkT (d : D) : Option NestedKey := match d with
  | .tup l => (match nkOfs l with
    | some ks => if (NestedKey.tup ks).depth ≤ 8 then some (.tup ks) else none
    | none => none)
  | _ => none
abbrev NE := NestedKey × Addr × V
/-- at a: a dict whose keys are tuples, each with its place -/
def DN (a : Addr) (xs : List NE) : HO := .ext fun h => xs.length ≤ sizeLine ∧ (a == sysModules) = false ∧ (xs.map (·.1)).Nodup ∧
  ∃ (ys : List (NestedKey × Addr × Value)) (o : Obj) (es : Array DictEntry) (ep : _), Paired (fun (x : NE) (y : NestedKey × Addr × Value) => x.1 = y.1 ∧ x.2.1 = y.2.1 ∧ RelV x.2.2 y.2.2) xs ys ∧
    h.get? a = some o ∧ o.ExactDict ∧ o.data = .dict es ep ∧ es.toList = ys.map fun y => ⟨y.1.hash HasW.w, .ref y.2.1, y.2.2⟩
/-- at a: an error of class cls with the dict d -/
def XO (a : Addr) (cls : Value) (d : Option Addr) : HO := .ext fun h => ∃ (oe : Obj) (vs : Array Value), h.get? a = some oe ∧ oe.cls = cls ∧ oe.dict = d ∧ oe.data = .fields vs
mutual
inductive RelD (K : PySem.W.Frag) (H : Hp) : D → V → Prop
  | non : RelD K H .non .non
  | bl (b : Bool) : RelD K H (.bl b) (.bl b)
  | int (i : Int) : RelD K H (.int i) (.int i)
  | str (x : Str) : RelD K H (.str x) (.str x)
  | tup {l : List D} {a : Addr} {xs : List V} : SqT K H a xs → RelDs K H l xs → RelD K H (.tup l) (.ref a)
  | lst {l : List D} {a : Addr} {xs : List V} : Rd H a (.lst xs) → RelDs K H l xs → RelD K H (.lst l) (.ref a)
  | dct {l : List (D × D)} {a : Addr} {kvs : List (Key × V)} : Rd H a (.dK kvs) → l.map (·.1) = kvs.map (fun p => keyD p.1) → RelDs K H (l.map (·.2)) (kvs.map (·.2)) → RelD K H (.dct l) (.ref a)
  | dcN {l : List (D × D)} {a : Addr} {xs : List NE} : H a = some (DN a xs) → l.map (fun p => nkT p.1) = xs.map (fun x => some x.1) → RelDs K H (l.map (·.1)) (xs.map fun x => .ref x.2.1) → RelDs K H (l.map (·.2)) (xs.map (·.2.2)) → RelD K H (.dcN l) (.ref a)
  | obj {c : Str} {fs : List (Str × D)} {a dx : Addr} {vs : List (Str × V)} : H a = some (.ins (He.ga K c) dx vs) → fs.map (·.1) = vs.map (·.1) → RelDs K H (fs.map (·.2)) (vs.map (·.2)) → RelD K H (.obj c fs) (.ref a)
  | exc {c : Str} {d : D} {a dx : Addr} {v : V} : H a = some (XO a (.ref (He.ga K c)) (some dx)) → H dx = some (.xd [(fieldOf c, v)]) → RelD K H d v → RelD K H (.exc c d) (.ref a)
inductive RelDs (K : PySem.W.Frag) (H : Hp) : List D → List V → Prop
  | nil : RelDs K H [] []
  | cons {d : D} {v : V} {ds : List D} {vs : List V} : RelD K H d v → RelDs K H ds vs → RelDs K H (d :: ds) (v :: vs)
end
theorem Rd.mono {H H' : Hp} (k : ∀ a o, H a = some o → H' a = some o) {a : Addr} {u : HO} (h : Rd H a u) : Rd H' a u := by
  rcases h with h | ⟨o, h⟩
  · exact .inl (k _ _ h)
  · exact .inr ⟨o, k _ _ h⟩
theorem SqT.mono {K : PySem.W.Frag} {H H' : Hp} (k : ∀ a o, H a = some o → H' a = some o) {a : Addr} {xs : List V} (h : SqT K H a xs) : SqT K H' a xs := by
  rcases h with h | h
  · exact .inl (Rd.mono k h)
  · exact .inr h
theorem SqL.mono {K : PySem.W.Frag} {H H' : Hp} (k : ∀ a o, H a = some o → H' a = some o) {a : Addr} {xs : List V} (h : SqL K H a xs) : SqL K H' a xs := by
  rcases h with h | h
  · exact .inl (Rd.mono k h)
  · exact .inr h
mutual
theorem RelD.mono {K : PySem.W.Frag} {H H' : Hp} (k : ∀ a o, H a = some o → H' a = some o) : ∀ {d : D} {v : V}, RelD K H d v → RelD K H' d v
  | _, _, .non => .non
  | _, _, .bl b => .bl b
  | _, _, .int i => .int i
  | _, _, .str x => .str x
  | _, _, .tup h r => .tup (SqT.mono k h) (RelDs.mono k r)
  | _, _, .lst h r => .lst (Rd.mono k h) (RelDs.mono k r)
  | _, _, .dct h e r => .dct (Rd.mono k h) e (RelDs.mono k r)
  | _, _, .dcN h e r q => .dcN (k _ _ h) e (RelDs.mono k r) (RelDs.mono k q)
  | _, _, .obj h e r => .obj (k _ _ h) e (RelDs.mono k r)
  | _, _, .exc h e r => .exc (k _ _ h) (k _ _ e) (RelD.mono k r)
theorem RelDs.mono {K : PySem.W.Frag} {H H' : Hp} (k : ∀ a o, H a = some o → H' a = some o) : ∀ {ds : List D} {vs : List V}, RelDs K H ds vs → RelDs K H' ds vs
  | _, _, .nil => .nil
  | _, _, .cons h r => .cons (RelD.mono k h) (RelDs.mono k r)
end
theorem RelDs.length {K : PySem.W.Frag} {H : Hp} : ∀ {ds : List D} {vs : List V}, RelDs K H ds vs → ds.length = vs.length
  | _, _, .nil => rfl
  | _, _, .cons _ r => congrArg Nat.succ (RelDs.length r)
theorem RelDs.get {K : PySem.W.Frag} {H : Hp} : ∀ {ds : List D} {vs : List V} {i : Nat} {d : D}, RelDs K H ds vs → ds[i]? = some d → ∃ v, vs[i]? = some v ∧ RelD K H d v
  | _, _, _, _, .nil, e => by simp at e
  | _, _, 0, _, .cons h _, e => by simp at e; subst e; exact ⟨_, rfl, h⟩
  | _, _, i + 1, d, .cons _ r, e => by
    obtain ⟨v, h1, h2⟩ := RelDs.get (i := i) (d := d) r (by simpa using e)
    exact ⟨v, by simpa using h1, h2⟩
theorem RelDs.append {K : PySem.W.Frag} {H : Hp} : ∀ {ds es : List D} {vs us : List V}, RelDs K H ds vs → RelDs K H es us → RelDs K H (ds ++ es) (vs ++ us)
  | _, _, _, _, .nil, s => s
  | _, _, _, _, .cons h r, s => .cons h (RelDs.append r s)
theorem RelDs.take {K : PySem.W.Frag} {H : Hp} : ∀ {ds : List D} {vs : List V} (n : Nat), RelDs K H ds vs → RelDs K H (ds.take n) (vs.take n)
  | _, _, 0, _ => .nil
  | _, _, _ + 1, .nil => .nil
  | _, _, n + 1, .cons h r => .cons h (RelDs.take n r)
theorem RelDs.drop {K : PySem.W.Frag} {H : Hp} : ∀ {ds : List D} {vs : List V} (n : Nat), RelDs K H ds vs → RelDs K H (ds.drop n) (vs.drop n)
  | _, _, 0, r => r
  | _, _, _ + 1, .nil => .nil
  | _, _, n + 1, .cons _ r => RelDs.drop n r

/-! ### cells -/
def liveB (as : List Addr) (G : Gh) (a : Addr) : Bool := (as.zip G).any fun p => p.1 == a && p.2.on
/-- what is not a cell -/
def Fz (hd as : List Addr) (G : Gh) (H : Hp) : Hp := fun a => if (hd.contains a || liveB as G a) = true then none else H a
def RelVl (K : PySem.W.Frag) (as : List Addr) (F : Hp) : Vl → V → Prop
  | .dat d, v => RelD K F d v
  | .ref i, v => ∃ a, as[i]? = some a ∧ v = .ref a
  | .pr d i, v => ∃ p u a, v = .ref p ∧ SqT K F p [u, .ref a] ∧ RelD K F d u ∧ as[i]? = some a
abbrev RelVls (K : PySem.W.Frag) (as : List Addr) (F : Hp) : List Vl → List V → Prop := Paired (RelVl K as F)
def RelGO (K : PySem.W.Frag) (as : List Addr) (F H : Hp) (a : Addr) : GO → Prop
  | .lst l => ∃ xs, H a = some (.lst xs) ∧ RelVls K as F l xs
  | .dct l => ∃ kvs, H a = some (.dK kvs) ∧ l.map (·.1) = kvs.map (fun p => keyD p.1) ∧ RelVls K as F (l.map (·.2)) (kvs.map (·.2))
  | .dcN l => ∃ xs, H a = some (DN a xs) ∧ l.map (fun p => nkT p.1) = xs.map (fun x => some x.1) ∧ RelDs K F (l.map (·.1)) (xs.map fun x => .ref x.2.1) ∧ RelVls K as F (l.map (·.2)) (xs.map (·.2.2))
  | .ins c fs => ∃ dx vs, H a = some (.ins (He.ga K c) dx vs) ∧ fs.map (·.1) = vs.map (·.1) ∧ RelVls K as F (fs.map (·.2)) (vs.map (·.2))
  | .gone => True
structure Wd (K : PySem.W.Frag) (hd as : List Addr) (G : Gh) (H : Hp) : Prop where
  len : as.length = G.length
  nd : as.Nodup
  cell : ∀ (i : Nat) (go : GO) (a : Addr), G[i]? = some go → as[i]? = some a → RelGO K as (Fz hd as G H) H a go
  here : ∀ a ∈ as, H a ≠ none
  hid : ∀ a ∈ hd, H a ≠ none ∧ a ∉ as
/-- later: the cells' places stay, what was no cell is as it was -/
structure Ext (hd as : List Addr) (G : Gh) (H : Hp) (as' : List Addr) (G' : Gh) (H' : Hp) : Prop where
  pre : as <+: as'
  keep : ∀ a o, Fz hd as G H a = some o → Fz hd as' G' H' a = some o
  hid : ∀ a ∈ hd, H' a = H a
theorem Ext.refl (hd as : List Addr) (G : Gh) (H : Hp) : Ext hd as G H as G H := ⟨List.prefix_refl _, fun _ _ h => h, fun _ _ => rfl⟩
theorem Ext.trans {hd as as1 as2 : List Addr} {G G1 G2 : Gh} {H H1 H2 : Hp} (a : Ext hd as G H as1 G1 H1) (b : Ext hd as1 G1 H1 as2 G2 H2) : Ext hd as G H as2 G2 H2 :=
  ⟨a.pre.trans b.pre, fun c o h => b.keep c o (a.keep c o h), fun c h => (b.hid c h).trans (a.hid c h)⟩
theorem pre_get {as as' : List Addr} (p : as <+: as') {i : Nat} {a : Addr} (h : as[i]? = some a) : as'[i]? = some a := by
  obtain ⟨t, rfl⟩ := p
  rw [List.getElem?_append_left (List.getElem?_eq_some_iff.mp h).1]
  exact h
theorem RelVl.mono {K : PySem.W.Frag} {as as' : List Addr} {F F' : Hp} (p : as <+: as') (k : ∀ a o, F a = some o → F' a = some o) : ∀ {x : Vl} {v : V}, RelVl K as F x v → RelVl K as' F' x v
  | .dat _, _, h => RelD.mono k h
  | .ref _, _, ⟨a, h, e⟩ => ⟨a, pre_get p h, e⟩
  | .pr _ _, _, ⟨q, u, a, e, h1, h2, h3⟩ => ⟨q, u, a, e, SqT.mono k h1, RelD.mono k h2, pre_get p h3⟩
theorem RelVl.ext {K : PySem.W.Frag} {as as' : List Addr} {G G' : Gh} {H H' : Hp} (e : Ext hd as G H as' G' H') {x : Vl} {v : V} (h : RelVl K as (Fz hd as G H) x v) : RelVl K as' (Fz hd as' G' H') x v := RelVl.mono e.pre e.keep h
theorem RelVls.ext {K : PySem.W.Frag} {as as' : List Addr} {G G' : Gh} {H H' : Hp} (e : Ext hd as G H as' G' H') {x : List Vl} {v : List V} (h : RelVls K as (Fz hd as G H) x v) : RelVls K as' (Fz hd as' G' H') x v := Paired.mapP h fun _ _ z => z.ext e

/-! ### the names' values -/
structure At (K : PySem.W.Frag) (hd as : List Addr) (ρ : Ev) (G : Gh) (σ : St) (H : Hp) : Prop where
  wd : Wd K hd as G H
  len : ρ.length = σ.length
  slot : ∀ (i : Nat) (x : Vl), ρ[i]? = some (some x) → ∃ v, σ[i]? = some (some v) ∧ RelVl K as (Fz hd as G H) x v
theorem At.ext {K : PySem.W.Frag} {as as' : List Addr} {ρ : Ev} {G G' : Gh} {σ : St} {H H' : Hp} (a : At K hd as ρ G σ H) (e : Ext hd as G H as' G' H') (w : Wd K hd as' G' H') : At K hd as' ρ G' σ H' :=
  ⟨w, a.len, fun i x h => let ⟨v, h1, h2⟩ := a.slot i x h; ⟨v, h1, h2.ext e⟩⟩
theorem At.set {K : PySem.W.Frag} {as : List Addr} {ρ : Ev} {G : Gh} {σ : St} {H : Hp} (a : At K hd as ρ G σ H) {j : Nat} {x : Vl} {v : V} (r : RelVl K as (Fz hd as G H) x v) : At K hd as (ρ.set j (some x)) G (σ.set j (some v)) H := by
  refine ⟨a.wd, by simp [a.len], fun i y h => ?_⟩
  by_cases e : j = i
  · subst e
    have hl : j < ρ.length := by
      by_cases hl : j < ρ.length
      · exact hl
      · rw [List.getElem?_eq_none (by simpa using hl)] at h; cases h
    rw [List.getElem?_set_self hl] at h
    have h' : x = y := by simpa using h
    subst h'
    exact ⟨v, by rw [List.getElem?_set_self (by rw [← a.len]; exact hl)], r⟩
  · rw [List.getElem?_set_ne e] at h
    obtain ⟨u, h1, h2⟩ := a.slot i y h
    exact ⟨u, by rw [List.getElem?_set_ne e]; exact h1, h2⟩
def wipeE (ρ : Ev) : List Nat → Ev
  | [] => ρ
  | v :: vs => (wipeE ρ vs).set v none
theorem At.wipe {K : PySem.W.Frag} {as : List Addr} {ρ : Ev} {G : Gh} {σ : St} {H : Hp} (a : At K hd as ρ G σ H) : ∀ vs : List Nat, At K hd as (wipeE ρ vs) G (wipe σ vs) H
  | [] => a
  | w :: vs => by
    have b := At.wipe a vs
    refine ⟨b.wd, by simp only [wipeE, L2.wipe, List.length_set]; exact b.len, fun i y h => ?_⟩
    unfold wipeE at h
    unfold L2.wipe
    by_cases e : w = i
    · subst e
      by_cases hl : w < (wipeE ρ vs).length
      · rw [List.getElem?_set_self hl] at h; cases h
      · rw [List.getElem?_eq_none (by simpa using hl)] at h; cases h
    · rw [List.getElem?_set_ne e] at h
      obtain ⟨u, h1, h2⟩ := b.slot i y h
      exact ⟨u, by rw [List.getElem?_set_ne e]; exact h1, h2⟩

/-! ### what an end asks -/
def Thrown (K : PySem.W.Frag) (hd as : List Addr) (G : Gh) (H : Hp) (c : Str) (d : D) (dd : Addr) : Prop := ∃ v, Fz hd as G H dd = some (.xd [(fieldOf c, v)]) ∧ RelD K (Fz hd as G H) d v
def Res (K : PySem.W.Frag) (hd : List Addr) (W : WX) (σ : St) (as : List Addr) (G : Gh) (H : Hp) (r : Rs Vl) (Q : VK) : Prop := match r with
  | .ok x G' => ∀ as' H' v, Ext hd as G H as' G' H' → Wd K hd as' G' H' → RelVl K as' (Fz hd as' G' H') x v → Q v H'
  | .ex c d G' => ∀ as' H' dd, Ext hd as G H as' G' H' → Wd K hd as' G' H' → Thrown K hd as' G' H' c d dd → W (.ref (He.ga K c)) (some dd) σ H'
  | .no => False
def ResB (K : PySem.W.Frag) (hd : List Addr) (W : WX) (σ : St) (as : List Addr) (G : Gh) (H : Hp) (r : Rs Bool) (Q : Bool → Hp → Prop) : Prop := match r with
  | .ok x G' => ∀ as' H', Ext hd as G H as' G' H' → Wd K hd as' G' H' → Q x H'
  | .ex c d G' => ∀ as' H' dd, Ext hd as G H as' G' H' → Wd K hd as' G' H' → Thrown K hd as' G' H' c d dd → W (.ref (He.ga K c)) (some dd) σ H'
  | .no => False
def ResA (K : PySem.W.Frag) (hd : List Addr) (W : WX) (σ : St) (as : List Addr) (G : Gh) (H : Hp) (r : Rs (List Vl)) (Q : List V → Hp → Prop) : Prop := match r with
  | .ok x G' => ∀ as' H' v, Ext hd as G H as' G' H' → Wd K hd as' G' H' → RelVls K as' (Fz hd as' G' H') x v → Q v H'
  | .ex c d G' => ∀ as' H' dd, Ext hd as G H as' G' H' → Wd K hd as' G' H' → Thrown K hd as' G' H' c d dd → W (.ref (He.ga K c)) (some dd) σ H'
  | .no => False
def ResS (K : PySem.W.Frag) (hd : List Addr) (W : WX) (as : List Addr) (G : Gh) (H : Hp) (r : SR) (Z : Ends) : Prop := match r with
  | .nx ρ' G' => ∀ as' H' σ', Ext hd as G H as' G' H' → At K hd as' ρ' G' σ' H' → Z.nx σ' H'
  | .rt x G' => ∀ as' H' v, Ext hd as G H as' G' H' → Wd K hd as' G' H' → RelVl K as' (Fz hd as' G' H') x v → Z.rt v H'
  | .bk ρ' G' => ∀ as' H' σ', Ext hd as G H as' G' H' → At K hd as' ρ' G' σ' H' → Z.bk σ' H'
  | .ct ρ' G' => ∀ as' H' σ', Ext hd as G H as' G' H' → At K hd as' ρ' G' σ' H' → Z.ct σ' H'
  | .ex c d ρ' G' => ∀ as' H' σ' dd, Ext hd as G H as' G' H' → At K hd as' ρ' G' σ' H' → Thrown K hd as' G' H' c d dd → W (.ref (He.ga K c)) (some dd) σ' H'
  | .no => False
/-- the readings of meanings -/
def lowE (K : PySem.W.Frag) (W : WX) (m : Ev → M Vl) : TE := fun σ H Q => ∃ hd as ρ G, At K hd as ρ G σ H ∧ Res K hd W σ as G H (m ρ G) Q
def lowB (K : PySem.W.Frag) (W : WX) (m : Ev → M Bool) : TT := fun σ H Q => ∃ hd as ρ G, At K hd as ρ G σ H ∧ ResB K hd W σ as G H (m ρ G) Q
def lowA (K : PySem.W.Frag) (W : WX) (m : Ev → M (List Vl)) : TA := fun σ H Q => ∃ hd as ρ G, At K hd as ρ G σ H ∧ ResA K hd W σ as G H (m ρ G) Q
def lowS (K : PySem.W.Frag) (W : WX) (m : Ev → Gh → SR) : TS := fun Z σ H => ∃ hd as ρ G, At K hd as ρ G σ H ∧ ResS K hd W as G H (m ρ G) Z
theorem _root_.L2.PE.imp {X : Cx} {e : Expr} {t t' : TE} (h : PE X e t) (k : ∀ σ H Q, t' σ H Q → t σ H Q) : PE X e t' := ⟨fun pins s σ H Q I q => h.run pins s σ H Q I (k σ H Q q)⟩
theorem _root_.L2.PT.imp {X : Cx} {e : Expr} {t t' : TT} (h : PT X e t) (k : ∀ σ H Q, t' σ H Q → t σ H Q) : PT X e t' := ⟨fun pins s σ H Q I q => h.run pins s σ H Q I (k σ H Q q)⟩
theorem _root_.L2.PA.imp {X : Cx} {e : List Expr} {t t' : TA} (h : PA X e t) (k : ∀ σ H Q, t' σ H Q → t σ H Q) : PA X e t' := ⟨fun pos pins s σ H Q I q => h.run pos pins s σ H Q I (k σ H Q q)⟩
theorem _root_.L2.PS.imp {X : Cx} {e : Stmt} {t t' : TS} (h : PS X e t) (k : ∀ Z σ H, t' Z σ H → t Z σ H) : PS X e t' := ⟨fun pins s σ H Z I q => h.run pins s σ H Z I (k Z σ H q)⟩
theorem _root_.L2.PSs.imp {X : Cx} {e : List Stmt} {t t' : TS} (h : PSs X e t) (k : ∀ Z σ H, t' Z σ H → t Z σ H) : PSs X e t' := ⟨fun pins s σ H Z I q => h.run pins s σ H Z I (k Z σ H q)⟩
/-- the judgements -/
abbrev QE (X : Cx) (W : WX) (e : Expr) (m : Ev → M Vl) : Prop := PE X e (lowE X.K W m)
abbrev QT (X : Cx) (W : WX) (e : Expr) (m : Ev → M Bool) : Prop := PT X e (lowB X.K W m)
abbrev QW (X : Cx) (W : WX) (e : Expr) (m : Ev → M Bool) : Prop := PW X e (lowB X.K W m)
abbrev QA (X : Cx) (W : WX) (e : List Expr) (m : Ev → M (List Vl)) : Prop := PA X e (lowA X.K W m)
abbrev QS (X : Cx) (W : WX) (e : Stmt) (m : Ev → Gh → SR) : Prop := PS X e (lowS X.K W m)
abbrev QSs (X : Cx) (W : WX) (e : List Stmt) (m : Ev → Gh → SR) : Prop := PSs X e (lowS X.K W m)

/-! ### sequencing of ends -/
section
variable {K : PySem.W.Frag} {W : WX} {σ : St} {as : List Addr} {G : Gh} {H : Hp}
theorem Res.mono {r : Rs Vl} {Q Q' : VK} (h : Res K hd W σ as G H r Q) (k : ∀ v H', Q v H' → Q' v H') : Res K hd W σ as G H r Q' := by
  cases r with
  | ok x G' => exact fun as' H' v e w r => k _ _ (h as' H' v e w r)
  | ex c d G' => exact h
  | no => exact h
/-- what is known between two steps -/
def Mid (K : PySem.W.Frag) (hd : List Addr) (W : WX) (σ : St) (as : List Addr) (G : Gh) (H : Hp) (f : Vl → M Vl) (Q : VK) (v : V) (H1 : Hp) : Prop :=
  ∃ as1 G1 x, Ext hd as G H as1 G1 H1 ∧ Wd K hd as1 G1 H1 ∧ RelVl K as1 (Fz hd as1 G1 H1) x v ∧ Res K hd W σ as1 G1 H1 (f x G1) Q
theorem Res.pull {r : Rs Vl} {as0 : List Addr} {G0 : Gh} {H0 : Hp} {Q : VK} (e0 : Ext hd as0 G0 H0 as G H) (h : Res K hd W σ as0 G0 H0 r Q) : Res K hd W σ as G H r Q := by
  cases r with
  | ok x G' => exact fun as' H' v e w r => h as' H' v (e0.trans e) w r
  | ex c d G' => exact fun as' H' dd e w t => h as' H' dd (e0.trans e) w t
  | no => exact h
theorem ResB.pull {r : Rs Bool} {as0 : List Addr} {G0 : Gh} {H0 : Hp} {Q : Bool → Hp → Prop} (e0 : Ext hd as0 G0 H0 as G H) (h : ResB K hd W σ as0 G0 H0 r Q) : ResB K hd W σ as G H r Q := by
  cases r with
  | ok x G' => exact fun as' H' e w => h as' H' (e0.trans e) w
  | ex c d G' => exact fun as' H' dd e w t => h as' H' dd (e0.trans e) w t
  | no => exact h
theorem ResA.pull {r : Rs (List Vl)} {as0 : List Addr} {G0 : Gh} {H0 : Hp} {Q : List V → Hp → Prop} (e0 : Ext hd as0 G0 H0 as G H) (h : ResA K hd W σ as0 G0 H0 r Q) : ResA K hd W σ as G H r Q := by
  cases r with
  | ok x G' => exact fun as' H' v e w r => h as' H' v (e0.trans e) w r
  | ex c d G' => exact fun as' H' dd e w t => h as' H' dd (e0.trans e) w t
  | no => exact h
theorem ResS.pull {r : SR} {as0 : List Addr} {G0 : Gh} {H0 : Hp} {Z : Ends} (e0 : Ext hd as0 G0 H0 as G H) (h : ResS K hd W as0 G0 H0 r Z) : ResS K hd W as G H r Z := by
  cases r with
  | nx ρ' G' => exact fun as' H' σ' e a => h as' H' σ' (e0.trans e) a
  | rt x G' => exact fun as' H' v e w r => h as' H' v (e0.trans e) w r
  | bk ρ' G' => exact fun as' H' σ' e a => h as' H' σ' (e0.trans e) a
  | ct ρ' G' => exact fun as' H' σ' e a => h as' H' σ' (e0.trans e) a
  | ex c d ρ' G' => exact fun as' H' σ' dd e a t => h as' H' σ' dd (e0.trans e) a t
  | no => exact h
/-- m, then f: an expression behind an expression -/
theorem Res.bind {m : M Vl} {f : Vl → M Vl} {Q : VK} (h : Res K hd W σ as G H (andThen m f G) Q) :
    Res K hd W σ as G H (m G) fun v H1 => ∃ as1 G1 x, Ext hd as G H as1 G1 H1 ∧ Wd K hd as1 G1 H1 ∧ RelVl K as1 (Fz hd as1 G1 H1) x v ∧ Res K hd W σ as1 G1 H1 (f x G1) Q := by
  unfold andThen at h
  cases e : m G with
  | ok x G' =>
    rw [e] at h
    exact fun as' H' v ee w r => ⟨as', G', x, ee, w, r, h.pull ee⟩
  | ex c d G' => rw [e] at h; exact h
  | no => rw [e] at h; exact h
theorem Res.bindA {m : M Vl} {f : Vl → M (List Vl)} {Q : List V → Hp → Prop} (h : ResA K hd W σ as G H (andThen m f G) Q) :
    Res K hd W σ as G H (m G) fun v H1 => ∃ as1 G1 x, Ext hd as G H as1 G1 H1 ∧ Wd K hd as1 G1 H1 ∧ RelVl K as1 (Fz hd as1 G1 H1) x v ∧ ResA K hd W σ as1 G1 H1 (f x G1) Q := by
  unfold andThen at h
  cases e : m G with
  | ok x G' =>
    rw [e] at h
    exact fun as' H' v ee w r => ⟨as', G', x, ee, w, r, h.pull ee⟩
  | ex c d G' => rw [e] at h; exact h
  | no => rw [e] at h; exact h
theorem Res.bindB {m : M Vl} {f : Vl → M Bool} {Q : Bool → Hp → Prop} (h : ResB K hd W σ as G H (andThen m f G) Q) :
    Res K hd W σ as G H (m G) fun v H1 => ∃ as1 G1 x, Ext hd as G H as1 G1 H1 ∧ Wd K hd as1 G1 H1 ∧ RelVl K as1 (Fz hd as1 G1 H1) x v ∧ ResB K hd W σ as1 G1 H1 (f x G1) Q := by
  unfold andThen at h
  cases e : m G with
  | ok x G' =>
    rw [e] at h
    exact fun as' H' v ee w r => ⟨as', G', x, ee, w, r, h.pull ee⟩
  | ex c d G' => rw [e] at h; exact h
  | no => rw [e] at h; exact h
theorem ResA.bind {m : M (List Vl)} {f : List Vl → M Vl} {Q : VK} (h : Res K hd W σ as G H (andThen m f G) Q) :
    ResA K hd W σ as G H (m G) fun v H1 => ∃ as1 G1 x, Ext hd as G H as1 G1 H1 ∧ Wd K hd as1 G1 H1 ∧ RelVls K as1 (Fz hd as1 G1 H1) x v ∧ Res K hd W σ as1 G1 H1 (f x G1) Q := by
  unfold andThen at h
  cases e : m G with
  | ok x G' =>
    rw [e] at h
    exact fun as' H' v ee w r => ⟨as', G', x, ee, w, r, h.pull ee⟩
  | ex c d G' => rw [e] at h; exact h
  | no => rw [e] at h; exact h
theorem ResA.bindA {m : M (List Vl)} {f : List Vl → M (List Vl)} {Q : List V → Hp → Prop} (h : ResA K hd W σ as G H (andThen m f G) Q) :
    ResA K hd W σ as G H (m G) fun v H1 => ∃ as1 G1 x, Ext hd as G H as1 G1 H1 ∧ Wd K hd as1 G1 H1 ∧ RelVls K as1 (Fz hd as1 G1 H1) x v ∧ ResA K hd W σ as1 G1 H1 (f x G1) Q := by
  unfold andThen at h
  cases e : m G with
  | ok x G' =>
    rw [e] at h
    exact fun as' H' v ee w r => ⟨as', G', x, ee, w, r, h.pull ee⟩
  | ex c d G' => rw [e] at h; exact h
  | no => rw [e] at h; exact h
theorem ResB.bind {m : M Bool} {f : Bool → M Vl} {Q : VK} (h : Res K hd W σ as G H (andThen m f G) Q) :
    ResB K hd W σ as G H (m G) fun x H1 => ∃ as1 G1, Ext hd as G H as1 G1 H1 ∧ Wd K hd as1 G1 H1 ∧ Res K hd W σ as1 G1 H1 (f x G1) Q := by
  unfold andThen at h
  cases e : m G with
  | ok x G' =>
    rw [e] at h
    exact fun as' H' ee w => ⟨as', G', ee, w, h.pull ee⟩
  | ex c d G' => rw [e] at h; exact h
  | no => rw [e] at h; exact h
theorem ResB.bindB {m : M Bool} {f : Bool → M Bool} {Q : Bool → Hp → Prop} (h : ResB K hd W σ as G H (andThen m f G) Q) :
    ResB K hd W σ as G H (m G) fun x H1 => ∃ as1 G1, Ext hd as G H as1 G1 H1 ∧ Wd K hd as1 G1 H1 ∧ ResB K hd W σ as1 G1 H1 (f x G1) Q := by
  unfold andThen at h
  cases e : m G with
  | ok x G' =>
    rw [e] at h
    exact fun as' H' ee w => ⟨as', G', ee, w, h.pull ee⟩
  | ex c d G' => rw [e] at h; exact h
  | no => rw [e] at h; exact h
theorem ResB.mono {r : Rs Bool} {Q Q' : Bool → Hp → Prop} (h : ResB K hd W σ as G H r Q) (k : ∀ v H', Q v H' → Q' v H') : ResB K hd W σ as G H r Q' := by
  cases r with
  | ok x G' => exact fun as' H' e w => k _ _ (h as' H' e w)
  | ex c d G' => exact h
  | no => exact h
theorem ResA.mono {r : Rs (List Vl)} {Q Q' : List V → Hp → Prop} (h : ResA K hd W σ as G H r Q) (k : ∀ v H', Q v H' → Q' v H') : ResA K hd W σ as G H r Q' := by
  cases r with
  | ok x G' => exact fun as' H' v e w r => k _ _ (h as' H' v e w r)
  | ex c d G' => exact h
  | no => exact h
end
end DL
end L2

/-! DL2: names, constants, tests, statements -/
namespace L2
namespace DL
open PySem PySem.Spec PyProof.Rows
variable [HasW]
section
variable {X : Cx} {W : WX}

/-! ### constants and names -/
def cD (d : D) : Ev → M Vl := fun _ => ret (.dat d)
def vD (i : Nat) : Ev → M Vl := fun ρ => match ρ[i]? with
  | some (some x) => ret x
  | _ => stuck
theorem Res.ret {K : PySem.W.Frag} {W : WX} {σ : St} {as : List Addr} {G : Gh} {H : Hp} {x : Vl} {v : V} {Q : VK} (w : Wd K hd as G H) (r : RelVl K as (Fz hd as G H) x v) (h : Res K hd W σ as G H (DL.ret x G) Q) : Q v H :=
  h as H v (Ext.refl _ _ _ _) w r
theorem q_const {e : Expr} {v : V} {d : D} (h : PE X e (tC v)) (r : ∀ F, RelD X.K F d v) : QE X W e (cD d) :=
  h.imp fun σ H Q ⟨hd, as, ρ, G, a, q⟩ => Res.ret (x := .dat d) a.wd (r _) q
theorem q_int {i j pos} : QE X W (.Constant (.int i) j pos) (cD (.int i)) := q_const pe_int fun _ => .int i
theorem q_bl {b j pos} : QE X W (.Constant (.bool b) j pos) (cD (.bl b)) := q_const pe_bl fun _ => .bl b
theorem q_non {j pos} : QE X W (.Constant .none j pos) (cD .non) := q_const pe_non fun _ => .non
theorem q_str {x j pos} : QE X W (.Constant (.str x) j pos) (cD (.str x)) := q_const pe_str fun _ => .str x
theorem q_var {i : Nat} {e : Expr} (h : PE X e (tVar i)) : QE X W e (vD i) := h.imp fun σ H Q ⟨hd, as, ρ, G, a, q⟩ => by
  unfold vD at q
  cases e : ρ[i]? with
  | none => rw [e] at q; exact q.elim
  | some o =>
    rw [e] at q
    cases o with
    | none => exact q.elim
    | some x =>
      obtain ⟨v, h1, h2⟩ := a.slot i x e
      exact ⟨v, h1, Res.ret a.wd h2 q⟩
theorem qv (i : Nat) {x : Str} {pos : Pos} (hN : X.N[i]? = some x := by rfl) (hv : Vis X.env.scope x := by first | exact Or.inl rfl | exact Or.inr (Or.inl rfl) | exact Or.inr (Or.inr rfl)) (hd : (x == ("__debug__" : Str)) = false := by decide)
    (hcd : (x == ("__classdict__" : Str)) = false := by decide) : QE X W (.Name x pos) (vD i) := q_var (pe_var hN hv hd hcd)
/-- a module's constant -/
theorem q_glob {x : Str} {v : V} {u : Value} {d : D} {pos : Pos} (hg : Gl X x) (hm : X.mg x = some u) (r : RelV v u) (rd : ∀ F, RelD X.K F d v) (hd : (x == ("__debug__" : Str)) = false := by decide) : QE X W (.Name x pos) (cD d) :=
  q_const (pe_glob hg hm r hd) rd

/-! ### tests -/
/-- truth of a value -/
def trueD : Vl → M Bool
  | .dat .non => ret false
  | .dat (.bl b) => ret b
  | .dat (.int i) => ret (i != 0)
  | .dat (.str x) => if x.length ≤ sizeLine then ret ((x.length : Int) != 0) else stuck
  | .dat (.tup l) => ret (!l.isEmpty)
  | .dat (.lst l) => ret (!l.isEmpty)
  | .dat (.dct l) => ret (!l.isEmpty)
  | .dat _ => stuck
  | .pr _ _ => stuck
  | .ref i => fun G => match G[i]? with
    | some (.lst l) => .ok (!l.isEmpty) G
    | some (.dct l) => .ok (!l.isEmpty) G
    | _ => .no
def bD (m : Ev → M Vl) : Ev → M Bool := fun ρ => andThen (m ρ) trueD
def asB : Vl → M Bool
  | .dat (.bl b) => ret b
  | _ => stuck
def valB (m : Ev → M Bool) : Ev → M Vl := fun ρ => andThen (m ρ) fun b => ret (.dat (.bl b))
theorem ResB.ret {K : PySem.W.Frag} {W : WX} {σ : St} {as : List Addr} {G : Gh} {H : Hp} {x : Bool} {Q : Bool → Hp → Prop} (w : Wd K hd as G H) (h : ResB K hd W σ as G H (DL.ret x G) Q) : Q x H := h as H (Ext.refl _ _ _ _) w
theorem RelDs.isEmpty {K : PySem.W.Frag} {H : Hp} {ds : List D} {vs : List V} (r : RelDs K H ds vs) : ds.isEmpty = vs.isEmpty := by cases r <;> rfl
theorem paired_isEmpty {α β : Type} {P : α → β → Prop} {xs : List α} {ys : List β} (r : Paired P xs ys) : xs.isEmpty = ys.isEmpty := by cases r <;> rfl
theorem Fz.of {as : List Addr} {G : Gh} {H : Hp} {a : Addr} {o : HO} (h : Fz hd as G H a = some o) : H a = some o := by
  unfold Fz at h
  split at h
  · cases h
  · exact h
theorem Fz.rd {as : List Addr} {G : Gh} {H : Hp} {a : Addr} {u : HO} (h : Rd (Fz hd as G H) a u) : Rd H a u := Rd.mono (fun _ _ => Fz.of) h
theorem Fz.sqT {K : PySem.W.Frag} {as : List Addr} {G : Gh} {H : Hp} {a : Addr} {xs : List V} (h : SqT K (Fz hd as G H) a xs) : SqT K H a xs := SqT.mono (fun _ _ => Fz.of) h
theorem Fz.sqL {K : PySem.W.Frag} {as : List Addr} {G : Gh} {H : Hp} {a : Addr} {xs : List V} (h : SqL K (Fz hd as G H) a xs) : SqL K H a xs := SqL.mono (fun _ _ => Fz.of) h
theorem Wd.at {K : PySem.W.Frag} {as : List Addr} {G : Gh} {H : Hp} (w : Wd K hd as G H) {i : Nat} {go : GO} {a : Addr} (h : G[i]? = some go) (e : as[i]? = some a) : RelGO K as (Fz hd as G H) H a go := w.cell i go a h e
/-- a value's truth, over the model: truthy at dK frozen too -/
theorem tru_low : TruR X (fun x H Q => ∃ hd as G y, Wd X.K hd as G H ∧ RelVl X.K as (Fz hd as G H) y x ∧ ResB X.K hd W [] as G H (trueD y G) Q ∧ (∀ c d G', trueD y G ≠ .ex c d G')) := by
  intro pins s σ H x v Q I rx ⟨hd, as, G, y, w, r, q, nx⟩
  have go : ∀ k, TruV X.K x H k → Q k H → wpAny (model X.prog X.w) X.A (truthy v) (TP X pins σ Q) X.xe s := fun k t z => tru_ok pins s σ H x v Q I rx ⟨k, t, z⟩
  cases y with
  | dat d =>
    cases d with
    | non => cases r; exact go false rfl (ResB.ret w q)
    | bl b => cases r; exact go b rfl (ResB.ret w q)
    | int i => cases r; exact go _ rfl (ResB.ret w q)
    | str z =>
      cases r
      by_cases hz : z.length ≤ sizeLine
      · have q' : ResB X.K hd W [] as G H (DL.ret ((z.length : Int) != 0) G) Q := by simpa only [trueD, if_pos hz] using q
        exact go _ ⟨hz, rfl⟩ (ResB.ret w q')
      · have q' : ResB X.K hd W [] as G H (DL.stuck G) Q := by simpa only [trueD, if_neg hz] using q
        exact q'.elim
    | tup l =>
      cases r with
      | tup h r => exact go _ (.inr (.inl ⟨_, Fz.sqT h, by rw [r.isEmpty]⟩)) (ResB.ret w q)
    | lst l =>
      cases r with
      | lst h r => exact go _ (.inl ⟨_, .inl (Fz.rd h), by rw [r.isEmpty]⟩) (ResB.ret w q)
    | dct l =>
      cases r with
      | @dct _ a kvs h e r =>
        have hk : kvs.isEmpty = l.isEmpty := by
          have e2 := congrArg List.length e
          simp only [List.length_map] at e2
          cases kvs <;> cases l <;> simp at e2 ⊢
        rcases Fz.rd h with h | ⟨o, h⟩
        · exact go _ (.inr (.inr ⟨kvs, h, rfl⟩)) (by rw [hk]; exact ResB.ret w q)
        · obtain ⟨_, hz, hS, vs, r', m⟩ := (show ObjOk X.prog X.w H s.heap a (.frz o (.dK kvs)) from I.hok a _ h)
          cases rx
          have hl := line63
          have hlen : kvs.length = vs.length := Paired.length r'
          exact wpAny_truthy_dict hS m (by omega) ⟨H, I.tok _, by rw [isEmpty_kv r', hk]; exact ResB.ret w q⟩
    | dcN l => exact q.elim
    | set l => exact q.elim
    | obj c fs => exact q.elim
    | exc c d => exact q.elim
  | ref i =>
    obtain ⟨a, ha, rfl⟩ := r
    simp only [trueD] at q
    cases e : G[i]? with
    | none => rw [e] at q; exact q.elim
    | some go' =>
      rw [e] at q
      cases go' with
      | lst l =>
        obtain ⟨xs, h1, h2⟩ := w.at e ha
        exact go _ (.inl ⟨xs, SqL.of h1, by rw [paired_isEmpty h2]⟩) (q as H (Ext.refl _ _ _ _) w)
      | dct l =>
        obtain ⟨kvs, h1, h2, h3⟩ := w.at e ha
        have hk : l.isEmpty = kvs.isEmpty := by
          have e2 := congrArg List.length h2
          simp only [List.length_map] at e2
          cases kvs <;> cases l <;> simp at e2 ⊢
        exact go _ (.inr (.inr ⟨kvs, h1, by rw [hk]⟩)) (q as H (Ext.refl _ _ _ _) w)
      | dcN l => exact q.elim
      | ins c fs => exact q.elim
      | gone => exact q.elim
  | pr _ _ => exact q.elim
theorem trueD_noex (y : Vl) (G : Gh) : ∀ c d G', trueD y G ≠ .ex c d G' := by
  intro c d G' h
  cases y with
  | dat x =>
    cases x <;> simp [trueD, DL.ret, DL.stuck] at h
    split at h <;> cases h
  | ref i =>
    simp only [trueD] at h
    split at h <;> cases h
  | pr _ _ => cases h
theorem ResB.noW {K : PySem.W.Frag} {W W' : WX} {σ σ' : St} {as : List Addr} {G : Gh} {H : Hp} {r : Rs Bool} {Q : Bool → Hp → Prop} (n : ∀ c d G', r ≠ .ex c d G') (h : ResB K hd W σ as G H r Q) : ResB K hd W' σ' as G H r Q := by
  cases r with
  | ok x G' => exact h
  | ex c d G' => exact absurd rfl (n c d G')
  | no => exact h
/-- any expression as a test -/
theorem qt_true {e : Expr} {m : Ev → M Vl} (h : QE X W e m) (he : ∀ whole, isTrue e X.env whole = (do let v ← whole; standAt e.pos; holding [v] (truthy v)) := by intro _; rfl) : QT X W e (bD m) := by
  refine ⟨fun pins s σ H Q I ⟨hd, as, ρ, G, a, q⟩ => ?_⟩
  refine isTrue_plain (thn (h.run pins s σ H _ I ⟨hd, as, ρ, G, a, Res.bindB q⟩) fun v s1 ⟨x, H1, I1, r1, as1, G1, y, ee, w, r, q1⟩ => ?_) (he _)
  exact tru_low (W := W) pins s1 σ H1 x v Q I1 r1 ⟨hd, as1, G1, y, w, r, q1.noW (trueD_noex y G1), trueD_noex y G1⟩
end
end DL
end L2

/-! DL3: operators by values -/
namespace L2
namespace DL
open PySem PySem.Spec PyProof.Rows
variable [HasW]
/-- an operation that raises nothing -/
abbrev O2 := Vl → Vl → Gh → Option (Vl × Gh)
abbrev O1 := Vl → Gh → Option (Vl × Gh)
abbrev OA := List Vl → Gh → Option (Vl × Gh)
def ofO {α : Type} : Option (α × Gh) → Rs α
  | some (x, G) => .ok x G
  | none => .no
def ResO (K : PySem.W.Frag) (hd as : List Addr) (G : Gh) (H : Hp) (r : Option (Vl × Gh)) (Q : VK) : Prop := match r with
  | some (x, G') => ∀ as' H' v, Ext hd as G H as' G' H' → Wd K hd as' G' H' → RelVl K as' (Fz hd as' G' H') x v → Q v H'
  | none => False
theorem Res.ofO {K : PySem.W.Frag} {W : WX} {σ : St} {as : List Addr} {G : Gh} {H : Hp} {r : Option (Vl × Gh)} {Q : VK} (h : Res K hd W σ as G H (DL.ofO r) Q) : ResO K hd as G H r Q := by
  cases r with
  | none => exact h
  | some p => exact h
theorem ResO.one {K : PySem.W.Frag} {as : List Addr} {G : Gh} {H : Hp} {x : Vl} {v : V} {Q : VK} (w : Wd K hd as G H) (r : RelVl K as (Fz hd as G H) x v) (h : ResO K hd as G H (some (x, G)) Q) : Q v H := h as H v (Ext.refl _ _ _ _) w r
section
variable {X : Cx} {W : WX}
def OpL (X : Cx) (f : Value → Value → Sem Value) (op : O2) : Prop :=
  ∀ (pins : List (Addr × Obj)) (s : Shared) (σ : St) (H : Hp) (x y : V) (v u : Value) (Q : VK) (hd as : List Addr) (G : Gh) (a b : Vl), Inv X pins σ H s → RelV x v → RelV y u → Wd X.K hd as G H → RelVl X.K as (Fz hd as G H) a x → RelVl X.K as (Fz hd as G H) b y →
    ResO X.K hd as G H (op a b G) Q → wpAny (model X.prog X.w) X.A (f v u) (EP X pins σ Q) X.xe s
def UnL (X : Cx) (f : Value → Sem Value) (op : O1) : Prop :=
  ∀ (pins : List (Addr × Obj)) (s : Shared) (σ : St) (H : Hp) (x : V) (v : Value) (Q : VK) (hd as : List Addr) (G : Gh) (a : Vl), Inv X pins σ H s → RelV x v → Wd X.K hd as G H → RelVl X.K as (Fz hd as G H) a x →
    ResO X.K hd as G H (op a G) Q → wpAny (model X.prog X.w) X.A (f v) (EP X pins σ Q) X.xe s
def CallL (X : Cx) (f : Value) (op : OA) : Prop :=
  ∀ (pins : List (Addr × Obj)) (s : Shared) (σ : St) (H : Hp) (xs : List V) (us : List Value) (Q : VK) (hd as : List Addr) (G : Gh) (a : List Vl), Inv X pins σ H s → Vals xs us → Wd X.K hd as G H → RelVls X.K as (Fz hd as G H) a xs →
    ResO X.K hd as G H (op a G) Q → wpAny (model X.prog X.w) X.A (call f us) (EP X pins σ Q) X.xe s
/-- a method of a built-in type T: its receiver, its arguments -/
def MtL (X : Cx) (id : String) (op : Vl → OA) : Prop :=
  ∀ (pins : List (Addr × Obj)) (s : Shared) (σ : St) (H : Hp) (x : V) (v : Value) (xs : List V) (us : List Value) (Q : VK) (hd as : List Addr) (G : Gh) (y : Vl) (a : List Vl), Inv X pins σ H s → RelV x v → Vals xs us → Wd X.K hd as G H → RelVl X.K as (Fz hd as G H) y x → RelVls X.K as (Fz hd as G H) a xs →
    ResO X.K hd as G H (op y a G) Q → wpAny (model X.prog X.w) X.A (call (.builtin id) (v :: us)) (EP X pins σ Q) X.xe s

def opE (op : O2) (ma mb : Ev → M Vl) : Ev → M Vl := fun ρ => andThen (ma ρ) fun x => andThen (mb ρ) fun y => fun G => ofO (op x y G)
def unE (op : O1) (ma : Ev → M Vl) : Ev → M Vl := fun ρ => andThen (ma ρ) fun x => fun G => ofO (op x G)
def callE (op : OA) (ma : Ev → M (List Vl)) : Ev → M Vl := fun ρ => andThen (ma ρ) fun x => fun G => ofO (op x G)
variable {a b c : Expr} {ma mb mc : Ev → M Vl} {pos : Pos}
/-- two expressions in a row, at the level of meanings -/
theorem two {op : O2} (ha : QE X W a ma) (hb : QE X W b mb) {pins : List (Addr × Obj)} {s : Shared} {σ : St} {H : Hp} {Q : VK} {Q' : Value → Shared → Prop} {f : Value → Value → Sem Value} (I : Inv X pins σ H s) (h : lowE X.K W (opE op ma mb) σ H Q)
    (hf : ∀ v u s2 x y H2 hd as G p q, Inv X pins σ H2 s2 → RelV x v → RelV y u → Wd X.K hd as G H2 → RelVl X.K as (Fz hd as G H2) p x → RelVl X.K as (Fz hd as G H2) q y → ResO X.K hd as G H2 (op p q G) Q → wpAny (model X.prog X.w) X.A (f v u) Q' X.xe s2) :
    wpAny (model X.prog X.w) X.A (eval a X.env) (fun v s1 => wpAny (model X.prog X.w) X.A (eval b X.env) (fun u s2 => wpAny (model X.prog X.w) X.A (f v u) Q' X.xe s2) X.xe s1) X.xe s := by
  obtain ⟨hd, as, ρ, G, at0, q⟩ := h
  refine thn (ha.run pins s σ H _ I ⟨hd, as, ρ, G, at0, Res.bind q⟩) fun v s1 ⟨x, H1, I1, r1, as1, G1, p, e1, w1, rp, q1⟩ => ?_
  refine thn (hb.run pins s1 σ H1 _ I1 ⟨hd, as1, ρ, G1, at0.ext e1 w1, Res.bind q1⟩) fun u s2 ⟨y, H2, I2, r2, as2, G2, p2, e2, w2, rp2, q2⟩ => ?_
  exact hf v u s2 x y H2 hd as2 G2 p p2 I2 r1 r2 w2 (rp.ext e2) rp2 (Res.ofO q2)
theorem q_op {op : Operator} {o : O2} (ho : OpL X (binaryOp op) o) (ha : QE X W a ma) (hb : QE X W b mb) : QE X W (.BinOp a op b pos) (opE o ma mb) :=
  ⟨fun pins s σ H Q I h => wpAny_BinOp (two ha hb I h fun v u s2 x y H2 hd as G p q I2 rx ry w rp rq z => ho pins s2 σ H2 x y v u Q hd as G p q I2 rx ry w rp rq z)⟩
theorem q_un {op : UnaryOp} {o : O1} (ho : UnL X (unaryOp op) o) (ha : QE X W a ma) : QE X W (.UnaryOp op a pos) (unE o ma) := by
  refine ⟨fun pins s σ H Q I ⟨hd, as, ρ, G, at0, q⟩ => ?_⟩
  refine UnaryOp_ (thn (ha.run pins s σ H _ I ⟨hd, as, ρ, G, at0, Res.bind q⟩) fun v s1 ⟨x, H1, I1, r1, as1, G1, p, e1, w1, rp, q1⟩ => ?_)
  exact ho pins s1 σ H1 x v Q hd as1 G1 p I1 r1 w1 rp (Res.ofO q1)
theorem q_cmp {op : CmpOp} {o : O2} (ho : OpL X (compareOp op) o) (ha : QE X W a ma) (hb : QE X W b mb) (hm : behindInMarks op b = false := by first | exact nomark _ | rfl | with_unfolding_all rfl) : QE X W (.Compare a [op] [b] pos) (opE o ma mb) :=
  ⟨fun pins s σ H Q I h => wpAny_Compare1 (two ha hb I h fun v u s2 x y H2 hd as G p q I2 rx ry w rp rq z => ho pins s2 σ H2 x y v u Q hd as G p q I2 rx ry w rp rq z) hm⟩
def boolD (m : Ev → M Vl) : Ev → M Bool := fun ρ => andThen (m ρ) asB
theorem asB_ok {K : PySem.W.Frag} {W : WX} {σ : St} {as : List Addr} {G : Gh} {H : Hp} {x : Vl} {v : V} {Q : Bool → Hp → Prop} (w : Wd K hd as G H) (r : RelVl K as (Fz hd as G H) x v) (h : ResB K hd W σ as G H (asB x G) Q) : ∃ k, v = .bl k ∧ Q k H := by
  cases x with
  | ref i => exact h.elim
  | pr _ _ => exact h.elim
  | dat d =>
    cases d with
    | bl b => cases r; exact ⟨b, rfl, ResB.ret w h⟩
    | _ => exact h.elim
/-- what follows a value, as a wish of values -/
def thenB (K : PySem.W.Frag) (hd : List Addr) (W : WX) (σ : St) (as : List Addr) (G : Gh) (H : Hp) (f : Vl → M Bool) (Q : Bool → Hp → Prop) (v : V) (H1 : Hp) : Prop :=
  ∃ as1 G1 x, Ext hd as G H as1 G1 H1 ∧ Wd K hd as1 G1 H1 ∧ RelVl K as1 (Fz hd as1 G1 H1) x v ∧ ResB K hd W σ as1 G1 H1 (f x G1) Q
theorem lowE_bool {m : Ev → M Vl} {σ : St} {H : Hp} {Q : Bool → Hp → Prop} (h : lowB X.K W (boolD m) σ H Q) : lowE X.K W m σ H fun v H1 => ∃ k, v = .bl k ∧ Q k H1 := by
  obtain ⟨hd, as, ρ, G, a, q⟩ := h
  refine ⟨hd, as, ρ, G, a, (Res.bindB q).mono fun v H1 ⟨as1, G1, x, e, w, r, q1⟩ => asB_ok w r q1⟩
theorem qt_cmp {op : CmpOp} {o : O2} (ho : OpL X (compareOp op) o) (ha : QE X W a ma) (hb : QE X W b mb) (hm : behindInMarks op b = false := by first | exact nomark _ | rfl | with_unfolding_all rfl) : QT X W (.Compare a [op] [b] pos) (boolD (opE o ma mb)) := by
  refine ⟨fun pins s σ H Q I h => ?_⟩
  refine wpAny_isTrue_Compare1 (two ha hb I (lowE_bool h) fun v u s2 x y H2 hd as G p q I2 rx ry w rp rq z => thn (ho pins s2 σ H2 x y v u _ hd as G p q I2 rx ry w rp rq z) fun c s3 ⟨z, H3, I3, r3, k, e, q3⟩ => ?_) hm
  subst e
  cases r3
  exact wpAny_truthy_bool ⟨H3, I3, q3⟩
/-- a op b op' c -/
def chainE (o o' : O2) (ma mb mc : Ev → M Vl) : Ev → M Vl := fun ρ => andThen (ma ρ) fun x => andThen (mb ρ) fun y => andThen (fun G => ofO (o x y G)) fun z => andThen (asB z) fun k =>
  if k = true then andThen (mc ρ) fun w => fun G => ofO (o' y w G) else ret (.dat (.bl false))
theorem q_chain {op op' : CmpOp} {o o' : O2} (ho : OpL X (compareOp op) o) (ho' : OpL X (compareOp op') o') (ha : QE X W a ma) (hb : QE X W b mb) (hc : QE X W c mc)
    (hm : lastMarks [op, op'] [b, c] = false := by with_unfolding_all rfl) : QE X W (.Compare a [op, op'] [b, c] pos) (chainE o o' ma mb mc) := by
  refine ⟨fun pins s σ H Q I ⟨hd, as, ρ, G, at0, q⟩ => ?_⟩
  refine Compare_chain (thn (ha.run pins s σ H _ I ⟨hd, as, ρ, G, at0, Res.bind q⟩) fun v s1 ⟨x, H1, I1, r1, as1, G1, p, e1, w1, rp, q1⟩ => chain_link (thn (hb.run pins s1 σ H1 _ I1 ⟨hd, as1, ρ, G1, at0.ext e1 w1, Res.bind q1⟩) fun u s2 ⟨y, H2, I2, r2, as2, G2, p2, e2, w2, rp2, q2⟩ =>
    thn (ho pins s2 σ H2 x y v u _ hd as2 G2 p p2 I2 r1 r2 w2 (rp.ext e2) rp2 (Res.ofO (Res.bind q2))) fun d s3 ⟨z, H3, I3, r3, as3, G3, p3, e3, w3, rp3, q3⟩ => ?_)) hm
  have q4 := ResB.bind q3
  cases p3 with
  | ref i => exact q4.elim
  | pr _ _ => exact q4.elim
  | dat dd =>
    cases dd with
    | bl k =>
      cases rp3
      cases r3
      refine wpAny_truthy_bool ?_
      obtain ⟨as4, G4, e4, w4, q5⟩ := q4 as3 H3 (Ext.refl _ _ _ _) w3
      cases k with
      | false => exact ite_ff ⟨.bl false, H3, I3, rfl, Res.ret (x := .dat (.bl false)) (v := .bl false) w4 (RelD.bl false) q5⟩
      | true =>
        refine ite_tt (chain_last (thn (hc.run pins s3 σ H3 _ I3 ⟨hd, as4, ρ, G4, at0.ext (e1.trans (e2.trans (e3.trans e4))) w4, Res.bind q5⟩) fun w' s4 ⟨z', H4, I4, r4, as6, G6, p6, e6, w6, rp6, q6⟩ => ?_))
        exact ho' pins s4 σ H4 y z' u w' Q hd as6 G6 p2 p6 I4 r2 r4 w6 (rp2.ext (e3.trans (e4.trans e6))) rp6 (Res.ofO q6)
    | _ => exact q4.elim
theorem qt_chain {op op' : CmpOp} {o o' : O2} (ho : OpL X (compareOp op) o) (ho' : OpL X (compareOp op') o') (ha : QE X W a ma) (hb : QE X W b mb) (hc : QE X W c mc)
    (hm : lastMarks [op, op'] [b, c] = false := by with_unfolding_all rfl) : QT X W (.Compare a [op, op'] [b, c] pos) (boolD (chainE o o' ma mb mc)) := by
  refine ⟨fun pins s σ H Q I h => ?_⟩
  obtain ⟨hd, as, ρ, G, at0, q⟩ := lowE_bool h
  refine isTrue_chain (thn (ha.run pins s σ H _ I ⟨hd, as, ρ, G, at0, Res.bind q⟩) fun v s1 ⟨x, H1, I1, r1, as1, G1, p, e1, w1, rp, q1⟩ => test_link (thn (hb.run pins s1 σ H1 _ I1 ⟨hd, as1, ρ, G1, at0.ext e1 w1, Res.bind q1⟩) fun u s2 ⟨y, H2, I2, r2, as2, G2, p2, e2, w2, rp2, q2⟩ =>
    thn (ho pins s2 σ H2 x y v u _ hd as2 G2 p p2 I2 r1 r2 w2 (rp.ext e2) rp2 (Res.ofO (Res.bind q2))) fun d s3 ⟨z, H3, I3, r3, as3, G3, p3, e3, w3, rp3, q3⟩ => ?_)) hm
  have q4 := ResB.bind q3
  cases p3 with
  | ref i => exact q4.elim
  | pr _ _ => exact q4.elim
  | dat dd =>
    cases dd with
    | bl k =>
      cases rp3
      cases r3
      refine wpAny_truthy_bool ?_
      obtain ⟨as4, G4, e4, w4, q5⟩ := q4 as3 H3 (Ext.refl _ _ _ _) w3
      cases k with
      | false =>
        obtain ⟨k', ek, q'⟩ := Res.ret (x := .dat (.bl false)) (v := .bl false) w4 (RelD.bl false) q5
        cases ek
        exact ite_ff ⟨H3, I3, q'⟩
      | true =>
        refine ite_tt (test_last (thn (hc.run pins s3 σ H3 _ I3 ⟨hd, as4, ρ, G4, at0.ext (e1.trans (e2.trans (e3.trans e4))) w4, Res.bind q5⟩) fun w' s4 ⟨z', H4, I4, r4, as6, G6, p6, e6, w6, rp6, q6⟩ =>
          thn (ho' pins s4 σ H4 y z' u w' _ hd as6 G6 p2 p6 I4 r2 r4 w6 (rp2.ext (e3.trans (e4.trans e6))) rp6 (Res.ofO q6)) fun d' s5 ⟨z2, H5, I5, r5, k2, e2', q7⟩ => ?_))
        subst e2'
        cases r5
        exact wpAny_truthy_bool ⟨H5, I5, q7⟩
    | _ => exact q4.elim
end
end DL
end L2

/-! DL4: and, or, not, if .. else, statements, argument lists, displays -/
namespace L2
namespace DL
open PySem PySem.Spec PyProof.Rows
variable [HasW]
section
variable {X : Cx} {W : WX} {a b c : Expr} {ma mb mc : Ev → M Vl} {pos : Pos} {ta tb tc : Ev → M Bool} {rest : List Expr}

/-! ### tests -/
def andT (ta tb : Ev → M Bool) : Ev → M Bool := fun ρ => andThen (ta ρ) fun k => if k = true then tb ρ else ret false
def orT (ta tb : Ev → M Bool) : Ev → M Bool := fun ρ => andThen (ta ρ) fun k => if k = true then ret true else tb ρ
def notT (ta : Ev → M Bool) : Ev → M Bool := fun ρ => andThen (ta ρ) fun k => ret (!k)
theorem qw_and1 (ha : QT X W a ta) : QW X W (.BoolOp .And [a] pos) ta := pw_and1 ha
theorem qw_or1 (ha : QT X W a ta) : QW X W (.BoolOp .Or [a] pos) ta := pw_or1 ha
theorem _root_.L2.PW.imp {X : Cx} {e : Expr} {t t' : TT} (h : PW X e t) (k : ∀ σ H Q, t' σ H Q → t σ H Q) : PW X e t' := ⟨fun wh pins s σ H Q I q => h.run wh pins s σ H Q I (k σ H Q q)⟩
theorem qw_and (ha : QT X W a ta) (hb : QW X W (.BoolOp .And (b :: rest) pos) tb) : QW X W (.BoolOp .And (a :: b :: rest) pos) (andT ta tb) :=
  (pw_and ha hb).imp fun σ H Q ⟨hd, as, ρ, G, at0, q⟩ => ⟨hd, as, ρ, G, at0, (ResB.bindB q).mono fun k H1 ⟨as1, G1, e, w, q1⟩ => by
    cases k with
    | true => exact ⟨hd, as1, ρ, G1, at0.ext e w, q1⟩
    | false => exact ResB.ret w q1⟩
theorem qw_or (ha : QT X W a ta) (hb : QW X W (.BoolOp .Or (b :: rest) pos) tb) : QW X W (.BoolOp .Or (a :: b :: rest) pos) (orT ta tb) :=
  (pw_or ha hb).imp fun σ H Q ⟨hd, as, ρ, G, at0, q⟩ => ⟨hd, as, ρ, G, at0, (ResB.bindB q).mono fun k H1 ⟨as1, G1, e, w, q1⟩ => by
    cases k with
    | false => exact ⟨hd, as1, ρ, G1, at0.ext e w, q1⟩
    | true => exact ResB.ret w q1⟩
theorem qt_w {e : Expr} {t : Ev → M Bool} (h : QW X W e t) : QT X W e t := PW.pt h
theorem qt_not (ha : QT X W a ta) : QT X W (.UnaryOp .Not a pos) (notT ta) :=
  (pt_not ha).imp fun σ H Q ⟨hd, as, ρ, G, at0, q⟩ => ⟨hd, as, ρ, G, at0, (ResB.bindB q).mono fun k H1 ⟨as1, G1, e, w, q1⟩ => ResB.ret w q1⟩
/-! ### .. as values: all but the last are bools -/
def andV (ma mb : Ev → M Vl) : Ev → M Vl := fun ρ => andThen (ma ρ) fun x => andThen (asB x) fun k => if k = true then mb ρ else ret (.dat (.bl false))
def orV (ma mb : Ev → M Vl) : Ev → M Vl := fun ρ => andThen (ma ρ) fun x => andThen (asB x) fun k => if k = true then ret (.dat (.bl true)) else mb ρ
theorem asB_mid {K : PySem.W.Frag} {σ : St} {as : List Addr} {G : Gh} {H : Hp} {x : Vl} {v : V} {f : Bool → M Vl} {Q : VK} (w : Wd K hd as G H) (r : RelVl K as (Fz hd as G H) x v) (h : Res K hd W σ as G H (andThen (asB x) f G) Q) : ∃ k, v = .bl k ∧ Res K hd W σ as G H (f k G) Q := by
  cases x with
  | ref i => exact h.elim
  | pr _ _ => exact h.elim
  | dat d =>
    cases d with
    | bl b => cases r; exact ⟨b, rfl, h⟩
    | _ => exact h.elim
theorem q_one {op} {m : Ev → M Vl} (h : QE X W a m) : QE X W (.BoolOp op [a] pos) m := pe_one h
theorem q_and (ha : QE X W a ma) (hb : QE X W (.BoolOp .And (b :: rest) pos) mb) : QE X W (.BoolOp .And (a :: b :: rest) pos) (andV ma mb) :=
  (pe_and ha hb).imp fun σ H Q ⟨hd, as, ρ, G, at0, q⟩ => ⟨hd, as, ρ, G, at0, (Res.bind q).mono fun v H1 ⟨as1, G1, x, e, w, r, q1⟩ => by
    obtain ⟨k, ek, q2⟩ := asB_mid w r q1
    refine ⟨k, ek, ?_⟩
    cases k with
    | true => exact ⟨hd, as1, ρ, G1, at0.ext e w, q2⟩
    | false => exact Res.ret (x := .dat (.bl false)) w (RelD.bl false) q2⟩
theorem q_or (ha : QE X W a ma) (hb : QE X W (.BoolOp .Or (b :: rest) pos) mb) : QE X W (.BoolOp .Or (a :: b :: rest) pos) (orV ma mb) :=
  (pe_or ha hb).imp fun σ H Q ⟨hd, as, ρ, G, at0, q⟩ => ⟨hd, as, ρ, G, at0, (Res.bind q).mono fun v H1 ⟨as1, G1, x, e, w, r, q1⟩ => by
    obtain ⟨k, ek, q2⟩ := asB_mid w r q1
    refine ⟨k, ek, ?_⟩
    cases k with
    | false => exact ⟨hd, as1, ρ, G1, at0.ext e w, q2⟩
    | true => exact Res.ret (x := .dat (.bl true)) w (RelD.bl true) q2⟩
/-- not, of a test -/
def notV (ta : Ev → M Vl) : Ev → M Vl := fun ρ => andThen (ta ρ) fun x => andThen (trueD x) fun k => ret (.dat (.bl (!k)))
theorem q_not (ha : QE X W a ma) : QE X W (.UnaryOp .Not a pos) (notV ma) := by
  refine ⟨fun pins s σ H Q I ⟨hd, as, ρ, G, at0, q⟩ => ?_⟩
  refine UnaryOp_ (thn (ha.run pins s σ H _ I ⟨hd, as, ρ, G, at0, Res.bind q⟩) fun v s1 ⟨x, H1, I1, r1, as1, G1, y, e1, w1, ry, q1⟩ => ?_)
  refine not_of (thn (tru_low (W := W) pins s1 σ H1 x v (fun k H2 => Q (.bl (!k)) H2) I1 r1 ⟨hd, as1, G1, y, w1, ry, ?_, trueD_noex y G1⟩) fun k s2 ⟨H2, I2, q2⟩ => ⟨.bl (!k), H2, I2, rfl, q2⟩)
  refine ResB.noW (trueD_noex y G1) ((ResB.bind q1).mono fun k H2 ⟨as2, G2, e2, w2, q2⟩ => Res.ret (x := .dat (.bl (!k))) w2 (RelD.bl (!k)) q2)
/-- a if t else b -/
def ifE (t : Ev → M Bool) (ma mb : Ev → M Vl) : Ev → M Vl := fun ρ => andThen (t ρ) fun k => if k = true then ma ρ else mb ρ
theorem q_if {t : Ev → M Bool} (hc : QT X W c t) (ha : QE X W a ma) (hb : QE X W b mb) : QE X W (.IfExp c a b pos) (ifE t ma mb) :=
  (pe_ifExp hc ha hb).imp fun σ H Q ⟨hd, as, ρ, G, at0, q⟩ => ⟨hd, as, ρ, G, at0, (ResB.bind q).mono fun k H1 ⟨as1, G1, e, w, q1⟩ => by
    cases k with
    | true => exact ⟨hd, as1, ρ, G1, at0.ext e w, q1⟩
    | false => exact ⟨hd, as1, ρ, G1, at0.ext e w, q1⟩⟩
end

/-! ### statements -/
abbrev SD := Ev → Gh → SR
def nextS : SD := fun ρ G => .nx ρ G
def seqS (s t : SD) : SD := fun ρ G => match s ρ G with
  | .nx ρ' G' => t ρ' G'
  | r => r
/-- an expression, then a statement's end -/
def thenS {α : Type} (m : Ev → M α) (f : α → SD) : SD := fun ρ G => match m ρ G with
  | .ok x G' => f x ρ G'
  | .ex c d G' => .ex c d ρ G'
  | .no => .no
def retS (m : Ev → M Vl) : SD := thenS m fun x _ G => .rt x G
def retN : SD := fun _ G => .rt (.dat .non) G
def dropS (m : Ev → M Vl) : SD := thenS m fun _ ρ G => .nx ρ G
def setS (i : Nat) (m : Ev → M Vl) : SD := thenS m fun x ρ G => .nx (ρ.set i (some x)) G
def ifS (t : Ev → M Bool) (s u : SD) : SD := thenS t fun k => if k = true then s else u
def breakS : SD := fun ρ G => .bk ρ G
def contS : SD := fun ρ G => .ct ρ G
section
variable {X : Cx} {W : WX} {st : Stmt} {rest : List Stmt} {s t : SD} {e : Expr} {m : Ev → M Vl} {pos : Pos}
theorem ResS.nxt {K : PySem.W.Frag} {as : List Addr} {ρ : Ev} {G : Gh} {σ : St} {H : Hp} {Z : Ends} (a : At K hd as ρ G σ H) (h : ResS K hd W as G H (.nx ρ G) Z) : Z.nx σ H := h as H σ (Ext.refl _ _ _ _) a
theorem thenS_mid {K : PySem.W.Frag} {as : List Addr} {ρ : Ev} {G : Gh} {σ : St} {H : Hp} {Z : Ends} {m : Ev → M Vl} {f : Vl → SD} (a : At K hd as ρ G σ H) (h : ResS K hd W as G H (thenS m f ρ G) Z) :
    Res K hd W σ as G H (m ρ G) fun v H1 => ∃ as1 G1 x, Ext hd as G H as1 G1 H1 ∧ At K hd as1 ρ G1 σ H1 ∧ RelVl K as1 (Fz hd as1 G1 H1) x v ∧ ResS K hd W as1 G1 H1 (f x ρ G1) Z := by
  unfold thenS at h
  cases em : m ρ G with
  | ok x G' =>
    rw [em] at h
    exact fun as' H' v e w r => ⟨as', G', x, e, a.ext e w, r, h.pull e⟩
  | ex c d G' =>
    rw [em] at h
    exact fun as' H' dd e w t => h as' H' σ dd e (a.ext e w) t
  | no => rw [em] at h; exact h
theorem thenS_midB {K : PySem.W.Frag} {as : List Addr} {ρ : Ev} {G : Gh} {σ : St} {H : Hp} {Z : Ends} {m : Ev → M Bool} {f : Bool → SD} (a : At K hd as ρ G σ H) (h : ResS K hd W as G H (thenS m f ρ G) Z) :
    ResB K hd W σ as G H (m ρ G) fun k H1 => ∃ as1 G1, Ext hd as G H as1 G1 H1 ∧ At K hd as1 ρ G1 σ H1 ∧ ResS K hd W as1 G1 H1 (f k ρ G1) Z := by
  unfold thenS at h
  cases em : m ρ G with
  | ok x G' =>
    rw [em] at h
    exact fun as' H' e w => ⟨as', G', e, a.ext e w, h.pull e⟩
  | ex c d G' =>
    rw [em] at h
    exact fun as' H' dd e w t => h as' H' σ dd e (a.ext e w) t
  | no => rw [em] at h; exact h
theorem qs_nil : QSs X W [] nextS := pss_nil.imp fun Z σ H ⟨hd, as, ρ, G, a, q⟩ => ResS.nxt a q
theorem qs_cons (h1 : QS X W st s) (h2 : QSs X W rest t) : QSs X W (st :: rest) (seqS s t) := (pss_cons h1 h2).imp fun Z σ H ⟨hd, as, ρ, G, a, q⟩ => by
  refine ⟨hd, as, ρ, G, a, ?_⟩
  unfold seqS at q
  cases e : s ρ G with
  | nx ρ' G' =>
    rw [e] at q
    exact fun as' H' σ' ee a' => ⟨hd, as', ρ', G', a', q.pull ee⟩
  | rt x G' => rw [e] at q; exact q
  | bk ρ' G' => rw [e] at q; exact q
  | ct ρ' G' => rw [e] at q; exact q
  | ex c d ρ' G' => rw [e] at q; exact q
  | no => rw [e] at q; exact q
theorem qs_one (h1 : QS X W st s) : QSs X W [st] s := pss_one h1
theorem q_pass : QS X W (.Pass pos) nextS := ps_pass.imp fun Z σ H ⟨hd, as, ρ, G, a, q⟩ => ResS.nxt a q
theorem q_break : QS X W (.Break pos) breakS := ps_break.imp fun Z σ H ⟨hd, as, ρ, G, a, q⟩ => q as H σ (Ext.refl _ _ _ _) a
theorem q_cont : QS X W (.Continue pos) contS := ps_continue.imp fun Z σ H ⟨hd, as, ρ, G, a, q⟩ => q as H σ (Ext.refl _ _ _ _) a
theorem q_ret (he : QE X W e m) : QS X W (.Return (some e) pos) (retS m) := (ps_ret he).imp fun Z σ H ⟨hd, as, ρ, G, a, q⟩ =>
  ⟨hd, as, ρ, G, a, (thenS_mid a q).mono fun v H1 ⟨as1, G1, x, e, a1, r, q1⟩ => q1 as1 H1 v (Ext.refl _ _ _ _) a1.wd r⟩
theorem q_retN : QS X W (.Return none pos) retN := ps_retN.imp fun Z σ H ⟨hd, as, ρ, G, a, q⟩ => q as H .non (Ext.refl _ _ _ _) a.wd RelD.non
theorem q_drop (he : QE X W e m) (hs : swapsWith e none pos.line X.env = pure false := by rfl) : QS X W (.Expr e pos) (dropS m) := (ps_expr he hs).imp fun Z σ H ⟨hd, as, ρ, G, a, q⟩ =>
  ⟨hd, as, ρ, G, a, (thenS_mid a q).mono fun v H1 ⟨as1, G1, x, e, a1, r, q1⟩ => ResS.nxt a1 q1⟩
theorem q_set {i : Nat} {x : Str} {pos' : Pos} (hN : X.N.Nodup) (hi : X.N[i]? = some x) (hx : Loc X.env.scope x) (he : QE X W e m) (hs : swapsWith e (some (.Name x pos')) pos.line X.env = pure false := by rfl) (hf : X.fn x = true ∨ X.env.scope.names.lookup x = some .local := by first | exact .inl rfl | exact .inr rfl | assumption) :
    QS X W (.Assign [.Name x pos'] e pos) (setS i m) := (ps_set hN hi hx he hs hf).imp fun Z σ H ⟨hd, as, ρ, G, a, q⟩ =>
  ⟨hd, as, ρ, G, a, (thenS_mid a q).mono fun v H1 ⟨as1, G1, x, e, a1, r, q1⟩ => ResS.nxt (a1.set r) q1⟩
theorem q_ifS {c : Expr} {x y : List Stmt} {tc : Ev → M Bool} (hc : QT X W c tc) (ha : QSs X W x s) (hb : QSs X W y t) : QS X W (.If c x y pos) (ifS tc s t) := (ps_if hc ha hb).imp fun Z σ H ⟨hd, as, ρ, G, a, q⟩ =>
  ⟨hd, as, ρ, G, a, (thenS_midB a q).mono fun k H1 ⟨as1, G1, e, a1, q1⟩ => by
    cases k with
    | true => exact ⟨hd, as1, ρ, G1, a1, q1⟩
    | false => exact ⟨hd, as1, ρ, G1, a1, q1⟩⟩
end

/-! ### argument lists -/
def nilA : Ev → M (List Vl) := fun _ => ret []
def consA (m : Ev → M Vl) (r : Ev → M (List Vl)) : Ev → M (List Vl) := fun ρ => andThen (m ρ) fun x => andThen (r ρ) fun xs => ret (x :: xs)
section
variable {X : Cx} {W : WX} {e : Expr} {es : List Expr} {m : Ev → M Vl} {r : Ev → M (List Vl)} {pos : Pos}
theorem ResA.ret {K : PySem.W.Frag} {σ : St} {as : List Addr} {G : Gh} {H : Hp} {x : List Vl} {v : List V} {Q : List V → Hp → Prop} (w : Wd K hd as G H) (r : RelVls K as (Fz hd as G H) x v) (h : ResA K hd W σ as G H (DL.ret x G) Q) : Q v H :=
  h as H v (Ext.refl _ _ _ _) w r
theorem qa_nil : QA X W [] nilA := pa_nil.imp fun σ H Q ⟨hd, as, ρ, G, a, q⟩ => ResA.ret a.wd .nil q
theorem qa_cons (ha : QE X W e m) (hr : QA X W es r) (hs : starEach (e :: es) X.env = (false, eval e X.env) :: starEach es X.env := by rfl) : QA X W (e :: es) (consA m r) := (pa_cons ha hr hs).imp fun σ H Q ⟨hd, as, ρ, G, a, q⟩ =>
  ⟨hd, as, ρ, G, a, (Res.bindA q).mono fun v H1 ⟨as1, G1, x, e1, w1, r1, q1⟩ => ⟨hd, as1, ρ, G1, a.ext e1 w1, (ResA.bindA q1).mono fun vs H2 ⟨as2, G2, xs, e2, w2, r2, q2⟩ => ResA.ret w2 (.cons (r1.ext e2) r2) q2⟩⟩

/-! ### displays -/
/-- all data -/
def allDat : List Vl → Option (List D)
  | [] => some []
  | .dat d :: r => (allDat r).map (d :: ·)
  | .ref _ :: _ => none
  | .pr _ _ :: _ => none
theorem allDat_rel {K : PySem.W.Frag} {as : List Addr} {F : Hp} : ∀ {xs : List Vl} {ds : List D} {vs : List V}, allDat xs = some ds → RelVls K as F xs vs → RelDs K F ds vs
  | [], ds, vs, h, r => by cases h; cases r; exact .nil
  | .dat d :: xs, ds, vs, h, r => by
    cases r with
    | cons r1 r2 =>
      unfold allDat at h
      obtain ⟨es, h1, rfl⟩ := Option.map_eq_some_iff.mp h
      exact .cons r1 (allDat_rel h1 r2)
  | .ref _ :: _, _, _, h, _ => by cases h
  | .pr _ _ :: _, _, _, h, _ => by cases h
theorem allDat_map (l : List D) : allDat (l.map .dat) = some l := by
  induction l with
  | nil => rfl
  | cons d l ih => simp [allDat, ih]
theorem allDat_eq : ∀ {xs : List Vl} {ds : List D}, allDat xs = some ds → xs = ds.map .dat
  | [], ds, h => by cases h; rfl
  | .dat d :: xs, ds, h => by
    unfold allDat at h
    obtain ⟨es, h1, rfl⟩ := Option.map_eq_some_iff.mp h
    rw [allDat_eq h1]; rfl
  | .ref _ :: _, _, h => by cases h
  | .pr _ _ :: _, _, h => by cases h
/-- a new object that is no cell -/
theorem liveB_mem {as : List Addr} {G : Gh} {a : Addr} (h : liveB as G a = true) : a ∈ as := by
  unfold liveB at h
  obtain ⟨p, hp, hq⟩ := List.any_eq_true.mp h
  rw [Bool.and_eq_true] at hq
  have := beq_iff_eq.mp hq.1
  rw [← this]
  exact (List.of_mem_zip hp).1
theorem liveB_free {as : List Addr} {G : Gh} {a : Addr} (h : a ∉ as) : liveB as G a = false := by
  cases e : liveB as G a with
  | false => rfl
  | true => exact absurd (liveB_mem e) h
theorem Wd.notin {K : PySem.W.Frag} {as : List Addr} {G : Gh} {H : Hp} (w : Wd K hd as G H) {p : Addr} (h : H p = none) : p ∉ as := fun hm => w.here p hm h
theorem not_hid {hd : List Addr} {a : Addr} (h : a ∉ hd) : hd.contains a = false := by
  cases e : hd.contains a with
  | false => rfl
  | true => exact absurd (List.contains_iff_mem.mp e) h
theorem Fz_new {hd as : List Addr} {G : Gh} {H : Hp} {p : Addr} {o : HO} (h : H p = none) (hp : p ∉ as) (hh : p ∉ hd) : (∀ a u, Fz hd as G H a = some u → Fz hd as G (upd H p o) a = some u) ∧ Fz hd as G (upd H p o) p = some o := by
  refine ⟨fun a u e => ?_, ?_⟩
  · have e' := Fz.of e
    unfold Fz at e ⊢
    split at e
    · cases e
    · rename_i hl
      rw [if_neg hl, upd_ne (ne_of_none e' h)]
      exact e
  · unfold Fz
    rw [if_neg (by rw [liveB_free hp, not_hid hh]; exact Bool.false_ne_true), upd_same]
theorem RelGO.mono {K : PySem.W.Frag} {as as' : List Addr} {F F' H H' : Hp} {a : Addr} (p : as <+: as') (k : ∀ b o, F b = some o → F' b = some o) (h : ∀ o, H a = some o → H' a = some o) : ∀ {go : GO}, RelGO K as F H a go → RelGO K as' F' H' a go
  | .lst _, ⟨xs, h1, h2⟩ => ⟨xs, h _ h1, Paired.mapP h2 fun _ _ z => z.mono p k⟩
  | .dct _, ⟨kvs, h1, e, h2⟩ => ⟨kvs, h _ h1, e, Paired.mapP h2 fun _ _ z => z.mono p k⟩
  | .dcN _, ⟨xs, h1, e, q, h2⟩ => ⟨xs, h _ h1, e, q.mono k, Paired.mapP h2 fun _ _ z => z.mono p k⟩
  | .ins _ _, ⟨dx, vs, h1, e, h2⟩ => ⟨dx, vs, h _ h1, e, Paired.mapP h2 fun _ _ z => z.mono p k⟩
  | .gone, _ => trivial
/-- a new frozen object is laid -/
theorem Wd.nohid {K : PySem.W.Frag} {hd as : List Addr} {G : Gh} {H : Hp} (w : Wd K hd as G H) {p : Addr} (h : H p = none) : p ∉ hd := fun hm => (w.hid p hm).1 h
theorem Wd.new {K : PySem.W.Frag} {hd as : List Addr} {G : Gh} {H : Hp} (w : Wd K hd as G H) {p : Addr} (o : HO) (h : H p = none) : Wd K hd as G (upd H p o) ∧ Ext hd as G H as G (upd H p o) ∧ Fz hd as G (upd H p o) p = some o := by
  have hp := w.notin h
  have hh := w.nohid h
  obtain ⟨k1, k2⟩ := Fz_new (G := G) (o := o) h hp hh
  refine ⟨⟨w.len, w.nd, fun i go a h1 h2 => ?_, fun a ha => ?_, fun a ha => ?_⟩, ⟨List.prefix_refl _, k1, fun a ha => ?_⟩, k2⟩
  · have hne : a ≠ p := fun e => hp (e ▸ List.mem_of_getElem? h2)
    exact (w.cell i go a h1 h2).mono (List.prefix_refl _) k1 fun u e => by rw [upd_ne hne]; exact e
  · have hne : a ≠ p := fun e => hp (e ▸ ha)
    rw [upd_ne hne]
    exact w.here a ha
  · have hne : a ≠ p := fun e => hh (e ▸ ha)
    rw [upd_ne hne]
    exact w.hid a ha
  · exact upd_ne fun e => hh (e ▸ ha)
/-- a new cell -/
theorem liveB_app {as : List Addr} {G : Gh} (hl : as.length = G.length) (p : Addr) (go : GO) (a : Addr) : liveB (as ++ [p]) (G ++ [go]) a = (liveB as G a || (p == a && go.on)) := by
  unfold liveB
  rw [List.zip_append hl, List.any_append]
  simp
theorem Wd.cellNew {K : PySem.W.Frag} {hd as : List Addr} {G : Gh} {H : Hp} (w : Wd K hd as G H) {p : Addr} {go : GO} {o : HO} (h : H p = none) (hg : ∀ F, (∀ b u, Fz hd as G H b = some u → F b = some u) → RelGO K (as ++ [p]) F (upd H p o) p go) (on : go.on = true) :
    Wd K hd (as ++ [p]) (G ++ [go]) (upd H p o) ∧ Ext hd as G H (as ++ [p]) (G ++ [go]) (upd H p o) := by
  have hp := w.notin h
  have hh := w.nohid h
  have k1 : ∀ b u, Fz hd as G H b = some u → Fz hd (as ++ [p]) (G ++ [go]) (upd H p o) b = some u := fun b u e => by
    have e' := Fz.of e
    have hne : b ≠ p := ne_of_none e' h
    unfold Fz at e ⊢
    split at e
    · cases e
    · rename_i hl
      rw [if_neg ?_, upd_ne hne]
      · exact e
      · rw [liveB_app w.len, Bool.or_eq_true, Bool.or_eq_true]
        rintro (z | z | z)
        · exact hl (by rw [z, Bool.true_or])
        · exact hl (by rw [z, Bool.or_true])
        · rw [Bool.and_eq_true] at z
          exact hne (beq_iff_eq.mp z.1).symm
  refine ⟨⟨by simp [w.len], ?_, fun i g a h1 h2 => ?_, fun a ha => ?_, fun a ha => ?_⟩, ⟨List.prefix_append _ _, k1, fun a ha => ?_⟩⟩
  · rw [List.nodup_append]
    exact ⟨w.nd, by simp, fun a ha b hb => by
      have : b = p := by simpa using hb
      subst this
      exact fun e => hp (e ▸ ha)⟩
  · by_cases hi : i < as.length
    · rw [List.getElem?_append_left hi] at h2
      rw [List.getElem?_append_left (by rw [← w.len]; exact hi)] at h1
      have hne : a ≠ p := fun e => hp (e ▸ List.mem_of_getElem? h2)
      exact (w.cell i g a h1 h2).mono (List.prefix_append _ _) k1 fun u e => by rw [upd_ne hne]; exact e
    · have hi' : i = as.length := by
        have := (List.getElem?_eq_some_iff.mp h2).1
        simp at this
        omega
      subst hi'
      have e2 : a = p := by simpa using h2.symm
      have e1 : g = go := by
        rw [w.len] at h1
        simpa using h1.symm
      subst e1 e2
      exact hg _ k1
  · rcases List.mem_append.mp ha with ha | ha
    · have hne : a ≠ p := fun e => hp (e ▸ ha)
      rw [upd_ne hne]
      exact w.here a ha
    · have : a = p := by simpa using ha
      subst this
      rw [upd_same]
      exact fun z => by cases z
  · have hne : a ≠ p := fun e => hh (e ▸ ha)
    rw [upd_ne hne]
    refine ⟨(w.hid a ha).1, fun hm => ?_⟩
    rcases List.mem_append.mp hm with hm | hm
    · exact (w.hid a ha).2 hm
    · exact hne (by simpa using hm)
  · exact upd_ne fun e => hh (e ▸ ha)
def tupE (m : Ev → M (List Vl)) : Ev → M Vl := fun ρ => andThen (m ρ) fun xs => fun G => match allDat xs with
  | some ds => if ds.length ≤ sizeLine then .ok (.dat (.tup ds)) G else .no
  | none => .no
/-- a list that never changes -/
def lstE (m : Ev → M (List Vl)) : Ev → M Vl := fun ρ => andThen (m ρ) fun xs => fun G => match allDat xs with
  | some ds => if ds.length ≤ sizeLine then .ok (.dat (.lst ds)) G else .no
  | none => .no
/-- a list that is a cell -/
def lstC (m : Ev → M (List Vl)) : Ev → M Vl := fun ρ => andThen (m ρ) fun xs => fun G => if xs.length ≤ sizeLine then .ok (.ref G.length) (G ++ [.lst xs]) else .no
theorem q_tup {x1} (h : QA X W es r) : QE X W (.Tuple es x1 pos) (tupE r) := (pe_tup h).imp fun σ H Q ⟨hd, as, ρ, G, a, q⟩ =>
  ⟨hd, as, ρ, G, a, (ResA.bind q).mono fun vs H1 ⟨as1, G1, xs, e1, w1, r1, q1⟩ => by
    cases e : allDat xs with
    | none => rw [e] at q1; exact q1.elim
    | some ds =>
      rw [e] at q1
      by_cases hz : ds.length ≤ sizeLine
      · have q2 : Res X.K hd W σ as1 G1 H1 (.ok (.dat (.tup ds)) G1) Q := by simpa only [if_pos hz] using q1
        have rd := allDat_rel e r1
        refine ⟨by rw [← rd.length]; exact hz, fun p hp => ?_⟩
        obtain ⟨w2, e2, f2⟩ := w1.new (.tup vs) hp
        exact q2 as1 _ (.ref p) e2 w2 (RelD.tup (SqT.of f2) (RelDs.mono e2.keep rd))
      · have q2 : Res X.K hd W σ as1 G1 H1 .no Q := by simpa only [if_neg hz] using q1
        exact q2.elim⟩
theorem q_lst (h : QA X W es r) : QE X W (.List es pos) (lstE r) := (pe_lst h).imp fun σ H Q ⟨hd, as, ρ, G, a, q⟩ =>
  ⟨hd, as, ρ, G, a, (ResA.bind q).mono fun vs H1 ⟨as1, G1, xs, e1, w1, r1, q1⟩ => by
    cases e : allDat xs with
    | none => rw [e] at q1; exact q1.elim
    | some ds =>
      rw [e] at q1
      by_cases hz : ds.length ≤ sizeLine
      · have q2 : Res X.K hd W σ as1 G1 H1 (.ok (.dat (.lst ds)) G1) Q := by simpa only [if_pos hz] using q1
        have rd := allDat_rel e r1
        refine ⟨by rw [← rd.length]; exact hz, fun p hp => ?_⟩
        obtain ⟨w2, e2, f2⟩ := w1.new (.lst vs) hp
        exact q2 as1 _ (.ref p) e2 w2 (RelD.lst (.inl f2) (RelDs.mono e2.keep rd))
      · have q2 : Res X.K hd W σ as1 G1 H1 .no Q := by simpa only [if_neg hz] using q1
        exact q2.elim⟩
theorem q_lstC (h : QA X W es r) : QE X W (.List es pos) (lstC r) := (pe_lst h).imp fun σ H Q ⟨hd, as, ρ, G, a, q⟩ =>
  ⟨hd, as, ρ, G, a, (ResA.bind q).mono fun vs H1 ⟨as1, G1, xs, e1, w1, r1, q1⟩ => by
    by_cases hz : xs.length ≤ sizeLine
    · have q2 : Res X.K hd W σ as1 G1 H1 (.ok (.ref G1.length) (G1 ++ [.lst xs])) Q := by simpa only [if_pos hz] using q1
      refine ⟨by rw [← Paired.length r1]; exact hz, fun p hp => ?_⟩
      obtain ⟨w2, e2⟩ := w1.cellNew (go := .lst xs) (o := .lst vs) hp (fun F k => ⟨vs, upd_same, Paired.mapP r1 fun _ _ z => z.mono (List.prefix_append _ _) k⟩) rfl
      exact q2 _ _ (.ref p) e2 w2 ⟨p, by rw [← w1.len]; simp, rfl⟩
    · have q2 : Res X.K hd W σ as1 G1 H1 .no Q := by simpa only [if_neg hz] using q1
      exact q2.elim⟩
end
end DL
end L2

/-! DL5: calls: a def's meaning over its own cells; copy in, copy out -/
namespace L2
namespace DL
open PySem PySem.Spec PyProof.Rows
variable [HasW]
/-! ### leaving a def: what is no argument's cell is frozen -/
def mapO {α β : Type} (f : α → Option β) : List α → Option (List β)
  | [] => some []
  | x :: xs => match f x with
    | some y => match mapO f xs with
      | some ys => some (y :: ys)
      | none => none
    | none => none
theorem mapO_cons {α β : Type} {f : α → Option β} {x : α} {xs : List α} {zs : List β} (h : mapO f (x :: xs) = some zs) : ∃ y ys, zs = y :: ys ∧ f x = some y ∧ mapO f xs = some ys := by
  unfold mapO at h
  cases e : f x with
  | none => rw [e] at h; cases h
  | some y =>
    rw [e] at h
    cases e2 : mapO f xs with
    | none => rw [e2] at h; cases h
    | some ys => rw [e2] at h; cases h; exact ⟨y, ys, rfl, rfl, rfl⟩
theorem mapO_length {α β : Type} {f : α → Option β} : ∀ {xs : List α} {ys : List β}, mapO f xs = some ys → ys.length = xs.length
  | [], ys, h => by cases h; rfl
  | x :: xs, zs, h => by
    obtain ⟨y, ys, rfl, _, h2⟩ := mapO_cons h
    simp [mapO_length h2]
theorem mapO_get {α β : Type} {f : α → Option β} : ∀ {xs : List α} {ys : List β} {i : Nat} {y : β}, mapO f xs = some ys → ys[i]? = some y → ∃ x, xs[i]? = some x ∧ f x = some y
  | [], ys, i, y, h, e => by cases h; simp at e
  | x :: xs, zs, 0, y, h, e => by
    obtain ⟨y', ys, rfl, h1, h2⟩ := mapO_cons h
    simp at e; subst e
    exact ⟨x, rfl, h1⟩
  | x :: xs, zs, i + 1, y, h, e => by
    obtain ⟨y', ys, rfl, h1, h2⟩ := mapO_cons h
    obtain ⟨x', h3, h4⟩ := mapO_get (i := i) h2 (by simpa using e)
    exact ⟨x', by simpa using h3, h4⟩
def frzV (k : Nat) (G : Gh) : Nat → Vl → Option D
  | _, .dat d => some d
  | _, .pr _ _ => none
  | 0, .ref _ => none
  | n + 1, .ref j => if j < k then none else match G[j]? with
    | some (.lst l) => (mapO (frzV k G n) l).map .lst
    | some (.dct l) => (mapO (frzV k G n) (l.map (·.2))).map fun vs => .dct ((l.map (·.1)).zip vs)
    | some (.dcN l) => (mapO (frzV k G n) (l.map (·.2))).map fun vs => .dcN ((l.map (·.1)).zip vs)
    | some (.ins c fs) => (mapO (frzV k G n) (fs.map (·.2))).map fun vs => .obj c ((fs.map (·.1)).zip vs)
    | _ => none
def frzGO (k : Nat) (G : Gh) : GO → Option GO
  | .lst l => (mapO (frzV k G 3) l).map fun ds => .lst (ds.map .dat)
  | .dct l => (mapO (frzV k G 3) (l.map (·.2))).map fun vs => .dct ((l.map (·.1)).zip (vs.map .dat))
  | .dcN l => (mapO (frzV k G 3) (l.map (·.2))).map fun vs => .dcN ((l.map (·.1)).zip (vs.map .dat))
  | .ins c fs => (mapO (frzV k G 3) (fs.map (·.2))).map fun vs => .ins c ((fs.map (·.1)).zip (vs.map .dat))
  | .gone => some .gone
def isDat : Vl → Bool
  | .dat _ => true
  | .ref _ => false
  | .pr _ _ => false
def flatGO : GO → Bool
  | .lst l => l.all isDat
  | .dct l => (l.map (·.2)).all isDat
  | .dcN l => (l.map (·.2)).all isDat
  | .ins _ fs => (fs.map (·.2)).all isDat
  | .gone => false
/-- all but the first k cells are frozen -/
def leaveF (k : Nat) (x : Vl) (G : Gh) : Rs Vl := match mapO (frzGO k G) (G.take k) with
  | none => .no
  | some Gk => match x with
    | .dat d => .ok (.dat d) Gk
    | .pr _ _ => .no
    | .ref j => if j < k then .ok (.ref j) Gk else match frzV k G 4 x with
      | some d => .ok (.dat d) Gk
      | none => .no
/-- the cell that is returned stays one -/
def leaveT (k : Nat) (x : Vl) (G : Gh) : Rs Vl := if (G.take k).all flatGO = true then match x with
    | .dat d => .ok (.dat d) (G.take k)
    | .pr _ _ => .no
    | .ref j => if j < k then .ok (.ref j) (G.take k) else match G[j]? with
      | some go => if flatGO go = true then .ok (.ref k) (G.take k ++ [go]) else .no
      | none => .no
  else .no
def leave (top : Bool) (k : Nat) (x : Vl) (G : Gh) : Rs Vl := match top with
  | false => leaveF k x G
  | true => leaveT k x G
def leaveX (k : Nat) (c : Str) (d : D) (G : Gh) : Rs Vl := match mapO (frzGO k G) (G.take k) with
  | none => .no
  | some Gk => .ex c d Gk
def startE (n : Nat) (xs : List Vl) : Ev := xs.map some ++ List.replicate (n - xs.length) none
/-- a def: top: a list, dict or instance that it returns is the caller's own -/
def runD (top : Bool) (n : Nat) (body : SD) : List Vl → Gh → Rs Vl := fun xs G => match body (startE n xs) G with
  | .rt x G' => leave top G.length x G'
  | .nx _ G' => leave top G.length (.dat .non) G'
  | .ex c d _ G' => leaveX G.length c d G'
  | _ => .no

theorem zip_fst {α β : Type} : ∀ (xs : List α) (ys : List β), xs.length = ys.length → (xs.zip ys).map (·.1) = xs
  | [], [], _ => rfl
  | x :: xs, y :: ys, h => by simp [zip_fst xs ys (by simpa using h)]
  | [], _ :: _, h => by simp at h
  | _ :: _, [], h => by simp at h
theorem zip_snd {α β : Type} : ∀ (xs : List α) (ys : List β), xs.length = ys.length → (xs.zip ys).map (·.2) = ys
  | [], [], _ => rfl
  | x :: xs, y :: ys, h => by simp [zip_snd xs ys (by simpa using h)]
  | [], _ :: _, h => by simp at h
  | _ :: _, [], h => by simp at h
theorem zip_nk {β : Type} (l : List (D × Vl)) (ys : List β) (h : (l.map (·.1)).length = ys.length) : ((l.map (·.1)).zip ys).map (fun p => nkT p.1) = l.map (fun p => nkT p.1) := by
  have e := congrArg (List.map nkT) (zip_fst _ _ h)
  rw [List.map_map, List.map_map] at e
  exact e
theorem liveB_iff {as : List Addr} {G : Gh} {a : Addr} : liveB as G a = true ↔ ∃ (i : Nat) (go : GO), as[i]? = some a ∧ G[i]? = some go ∧ go.on = true := by
  constructor
  · intro h
    obtain ⟨p, hp, hq⟩ := List.any_eq_true.mp h
    rw [Bool.and_eq_true] at hq
    obtain ⟨i, hi⟩ := List.mem_iff_getElem?.mp hp
    have hz := List.getElem?_zip_eq_some.mp hi
    refine ⟨i, p.2, ?_, hz.2, hq.2⟩
    rw [← beq_iff_eq.mp hq.1]
    exact hz.1
  · rintro ⟨i, go, h1, h2, h3⟩
    refine List.any_eq_true.mpr ⟨(a, go), List.mem_iff_getElem?.mpr ⟨i, List.getElem?_zip_eq_some.mpr ⟨h1, h2⟩⟩, ?_⟩
    simp [h3]
theorem frzGO_on {k : Nat} {G : Gh} : ∀ {go go' : GO}, frzGO k G go = some go' → go'.on = go.on
  | .lst _, _, h => by obtain ⟨_, _, rfl⟩ := Option.map_eq_some_iff.mp h; rfl
  | .dct _, _, h => by obtain ⟨_, _, rfl⟩ := Option.map_eq_some_iff.mp h; rfl
  | .dcN _, _, h => by obtain ⟨_, _, rfl⟩ := Option.map_eq_some_iff.mp h; rfl
  | .ins _ _, _, h => by obtain ⟨_, _, rfl⟩ := Option.map_eq_some_iff.mp h; rfl
  | .gone, _, h => by cases h; rfl
section
variable {K : PySem.W.Frag} {as : List Addr} {G : Gh} {H : Hp}
/-- what is read of H at an address that is no cell of the first k -/
theorem Fz.more {hd as as' : List Addr} {G G' : Gh} {H : Hp} (n : ∀ a, liveB as' G' a = true → liveB as G a = true) {a : Addr} {o : HO} (h : Fz hd as G H a = some o) : Fz hd as' G' H a = some o := by
  unfold Fz at h ⊢
  split at h
  · cases h
  · rename_i hl
    rw [if_neg ?_]
    · exact h
    · rw [Bool.or_eq_true]
      rintro (z | z)
      · exact hl (by rw [z, Bool.true_or])
      · exact hl (by rw [n a z, Bool.or_true])
/-- freezing, into a heap F that has all that is no cell, and the cells from k on -/
theorem frz_rel {k : Nat} (w : Wd K hd as G H) {F : Hp} (hF : ∀ a o, Fz hd as G H a = some o → F a = some o) (hC : ∀ i a o, k ≤ i → as[i]? = some a → H a = some o → F a = some o) :
    ∀ (n : Nat) {x : Vl} {v : V} {d : D}, RelVl K as (Fz hd as G H) x v → frzV k G n x = some d → RelD K F d v := by
  intro n
  induction n with
  | zero =>
    intro x v d r h
    cases x with
    | dat e => unfold frzV at h; cases h; exact RelD.mono hF r
    | ref j => unfold frzV at h; cases h
    | pr _ _ => unfold frzV at h; cases h
  | succ n ih =>
    intro x v d r h
    cases x with
    | dat e => unfold frzV at h; cases h; exact RelD.mono hF r
    | pr _ _ => unfold frzV at h; cases h
    | ref j =>
      have all : ∀ {l : List Vl} {vs : List V} {ds : List D}, RelVls K as (Fz hd as G H) l vs → mapO (frzV k G n) l = some ds → RelDs K F ds vs := by
        intro l
        induction l with
        | nil => intro vs ds r h; cases r; cases h; exact .nil
        | cons y l ihl =>
          intro vs ds r h
          obtain ⟨e, es, rfl, h1, h2⟩ := mapO_cons h
          cases r with
          | cons r1 r2 => exact .cons (ih r1 h1) (ihl r2 h2)
      obtain ⟨a, ha, rfl⟩ := r
      unfold frzV at h
      by_cases hj : j < k
      · rw [if_pos hj] at h; cases h
      · rw [if_neg hj] at h
        cases e : G[j]? with
        | none => rw [e] at h; cases h
        | some go =>
          rw [e] at h
          cases go with
          | lst l =>
            obtain ⟨ds, h1, rfl⟩ := Option.map_eq_some_iff.mp h
            obtain ⟨xs, h2, h3⟩ := w.at e ha
            exact .lst (.inl (hC j a _ (by omega) ha h2)) (all h3 h1)
          | dct l =>
            obtain ⟨ds, h1, rfl⟩ := Option.map_eq_some_iff.mp h
            obtain ⟨kvs, h2, h3, h4⟩ := w.at e ha
            have hl := mapO_length h1
            have hz : (l.map (·.1)).length = ds.length := by simpa using hl.symm
            refine .dct (.inl (hC j a _ (by omega) ha h2)) ?_ ?_
            · rw [zip_fst _ _ hz]; exact h3
            · rw [zip_snd _ _ hz]; exact all h4 h1
          | dcN l =>
            obtain ⟨ds, h1, rfl⟩ := Option.map_eq_some_iff.mp h
            obtain ⟨xs, h2, h3, h5, h4⟩ := w.at e ha
            have hl := mapO_length h1
            have hz : (l.map (·.1)).length = ds.length := by simpa using hl.symm
            refine .dcN (hC j a _ (by omega) ha h2) (by rw [zip_nk _ _ hz]; exact h3) ?_ ?_
            · rw [zip_fst _ _ hz]; exact h5.mono hF
            · rw [zip_snd _ _ hz]; exact all h4 h1
          | ins c fs =>
            obtain ⟨ds, h1, rfl⟩ := Option.map_eq_some_iff.mp h
            obtain ⟨dx, vs, h2, h3, h4⟩ := w.at e ha
            have hl := mapO_length h1
            have hz : (fs.map (·.1)).length = ds.length := by simpa using hl.symm
            refine .obj (hC j a _ (by omega) ha h2) ?_ ?_
            · rw [zip_fst _ _ hz]; exact h3
            · rw [zip_snd _ _ hz]; exact all h4 h1
          | gone => cases h
theorem frzs_rel {k : Nat} (w : Wd K hd as G H) {F : Hp} (hF : ∀ a o, Fz hd as G H a = some o → F a = some o) (hC : ∀ i a o, k ≤ i → as[i]? = some a → H a = some o → F a = some o) (as' : List Addr) (n : Nat) :
    ∀ {l : List Vl} {vs : List V} {ds : List D}, RelVls K as (Fz hd as G H) l vs → mapO (frzV k G n) l = some ds → RelVls K as' F (ds.map .dat) vs
  | [], vs, ds, r, h => by cases r; cases h; exact .nil
  | y :: l, vs, ds, r, h => by
    obtain ⟨e, es, rfl, h1, h2⟩ := mapO_cons h
    cases r with
    | cons r1 r2 => exact .cons (frz_rel w hF hC n r1 h1) (frzs_rel w hF hC as' n r2 h2)
theorem frzGO_rel {k : Nat} (w : Wd K hd as G H) {F : Hp} (hF : ∀ a o, Fz hd as G H a = some o → F a = some o) (hC : ∀ i a o, k ≤ i → as[i]? = some a → H a = some o → F a = some o) (as' : List Addr) {a : Addr} :
    ∀ {go go' : GO}, RelGO K as (Fz hd as G H) H a go → frzGO k G go = some go' → RelGO K as' F H a go'
  | .lst l, _, ⟨xs, h1, h2⟩, h => by
    obtain ⟨ds, h3, rfl⟩ := Option.map_eq_some_iff.mp h
    exact ⟨xs, h1, frzs_rel w hF hC as' 3 h2 h3⟩
  | .dct l, _, ⟨kvs, h1, e, h2⟩, h => by
    obtain ⟨ds, h3, rfl⟩ := Option.map_eq_some_iff.mp h
    have hl := mapO_length h3
    have hz : (l.map (·.1)).length = (ds.map Vl.dat).length := by simpa using hl.symm
    refine ⟨kvs, h1, ?_, ?_⟩
    · rw [zip_fst _ _ hz]; exact e
    · rw [zip_snd _ _ hz]; exact frzs_rel w hF hC as' 3 h2 h3
  | .dcN l, _, ⟨xs, h1, e, q, h2⟩, h => by
    obtain ⟨ds, h3, rfl⟩ := Option.map_eq_some_iff.mp h
    have hl := mapO_length h3
    have hz : (l.map (·.1)).length = (ds.map Vl.dat).length := by simpa using hl.symm
    refine ⟨xs, h1, by rw [zip_nk _ _ hz]; exact e, ?_, ?_⟩
    · rw [zip_fst _ _ hz]; exact q.mono hF
    · rw [zip_snd _ _ hz]; exact frzs_rel w hF hC as' 3 h2 h3
  | .ins c fs, _, ⟨dx, vs, h1, e, h2⟩, h => by
    obtain ⟨ds, h3, rfl⟩ := Option.map_eq_some_iff.mp h
    have hl := mapO_length h3
    have hz : (fs.map (·.1)).length = (ds.map Vl.dat).length := by simpa using hl.symm
    refine ⟨dx, vs, h1, ?_, ?_⟩
    · rw [zip_fst _ _ hz]; exact e
    · rw [zip_snd _ _ hz]; exact frzs_rel w hF hC as' 3 h2 h3
  | .gone, _, _, h => by cases h; trivial
/-- the first k cells alone -/
theorem Wd.cut {hd as as0 : List Addr} {G : Gh} {H : Hp} (w : Wd K hd as G H) (p : as0 <+: as) {Gk : Gh} (hk : mapO (frzGO as0.length G) (G.take as0.length) = some Gk) :
    Wd K hd as0 Gk H ∧ (∀ a o, Fz hd as G H a = some o → Fz hd as0 Gk H a = some o) ∧ ∀ i a o, as0.length ≤ i → as[i]? = some a → H a = some o → Fz hd as0 Gk H a = some o := by
  obtain ⟨t, rfl⟩ := p
  have hlen : Gk.length = as0.length := by
    rw [mapO_length hk, List.length_take, ← w.len, List.length_append]
    omega
  have live : ∀ a, liveB as0 Gk a = true → liveB (as0 ++ t) G a = true := fun a h => by
    obtain ⟨i, go, h1, h2, h3⟩ := liveB_iff.mp h
    obtain ⟨g0, h4, h5⟩ := mapO_get hk h2
    have hi : i < as0.length := (List.getElem?_eq_some_iff.mp h1).1
    rw [List.getElem?_take_of_lt hi] at h4
    exact liveB_iff.mpr ⟨i, g0, by rw [List.getElem?_append_left hi]; exact h1, h4, by rw [← frzGO_on h5]; exact h3⟩
  have k1 : ∀ a o, Fz hd (as0 ++ t) G H a = some o → Fz hd as0 Gk H a = some o := fun a o h => Fz.more live h
  have k2 : ∀ i a o, as0.length ≤ i → (as0 ++ t)[i]? = some a → H a = some o → Fz hd as0 Gk H a = some o := fun i a o hi h1 h2 => by
    unfold Fz
    rw [if_neg ?_]
    · exact h2
    · rw [Bool.or_eq_true]
      rintro (z | z)
      · exact (w.hid a (List.contains_iff_mem.mp z)).2 (List.mem_of_getElem? h1)
      · have ha := liveB_mem z
        obtain ⟨j, hj⟩ := List.mem_iff_getElem?.mp ha
        have hj' : j < as0.length := (List.getElem?_eq_some_iff.mp hj).1
        have e := (List.getElem?_inj (List.getElem?_eq_some_iff.mp h1).1 w.nd).mp (h1.trans (by rw [List.getElem?_append_left hj']; exact hj.symm))
        omega
  refine ⟨⟨hlen.symm, (List.nodup_append.mp w.nd).1, fun i go a h1 h2 => ?_, fun a ha => w.here a (List.mem_append_left _ ha), fun a ha => ⟨(w.hid a ha).1, fun hm => (w.hid a ha).2 (List.mem_append_left _ hm)⟩⟩, k1, k2⟩
  obtain ⟨g0, h4, h5⟩ := mapO_get hk h1
  have hi : i < as0.length := (List.getElem?_eq_some_iff.mp h2).1
  rw [List.getElem?_take_of_lt hi] at h4
  exact frzGO_rel w k1 k2 as0 (w.cell i g0 a h4 (by rw [List.getElem?_append_left hi]; exact h2)) h5
end
theorem flat_rel {K : PySem.W.Frag} {as as' : List Addr} {F F' : Hp} (k : ∀ a o, F a = some o → F' a = some o) : ∀ {l : List Vl} {vs : List V}, l.all isDat = true → RelVls K as F l vs → RelVls K as' F' l vs
  | [], _, _, r => by cases r; exact .nil
  | .dat d :: l, _, h, r => by
    cases r with
    | cons r1 r2 => exact .cons (RelD.mono k r1) (flat_rel k (by simpa [isDat] using h) r2)
  | .ref _ :: l, _, h, _ => by simp [isDat] at h
  | .pr _ _ :: l, _, h, _ => by simp [isDat] at h
theorem flatGO_rel {K : PySem.W.Frag} {as as' : List Addr} {F F' H : Hp} {a : Addr} (k : ∀ a o, F a = some o → F' a = some o) : ∀ {go : GO}, flatGO go = true → RelGO K as F H a go → RelGO K as' F' H a go
  | .lst _, h, ⟨xs, h1, h2⟩ => ⟨xs, h1, flat_rel k h h2⟩
  | .dct _, h, ⟨kvs, h1, e, h2⟩ => ⟨kvs, h1, e, flat_rel k h h2⟩
  | .dcN _, h, ⟨xs, h1, e, q, h2⟩ => ⟨xs, h1, e, q.mono k, flat_rel k h h2⟩
  | .ins _ _, h, ⟨dx, vs, h1, e, h2⟩ => ⟨dx, vs, h1, e, flat_rel k h h2⟩
  | .gone, h, _ => by cases h
theorem flatGO_on : ∀ {go : GO}, flatGO go = true → go.on = true
  | .lst _, _ => rfl
  | .dct _, _ => rfl
  | .dcN _, _ => rfl
  | .ins _ _, _ => rfl
  | .gone, h => by cases h
/-- leaving: the ends meet -/
theorem leaveF_ok {K : PySem.W.Frag} {W : WX} {σ : St} {as as' : List Addr} {G G' : Gh} {H H' : Hp} {x : Vl} {v : V} {Q : VK} (w0 : as.length = G.length) (e : Ext hd as G H as' G' H') (w : Wd K hd as' G' H') (r : RelVl K as' (Fz hd as' G' H') x v)
    (h : Res K hd W σ as G H (leaveF G.length x G') Q) : Q v H' := by
  unfold leaveF at h
  rw [← w0] at h
  cases hk : mapO (frzGO as.length G') (G'.take as.length) with
  | none => rw [hk] at h; exact h.elim
  | some Gk =>
    rw [hk] at h
    obtain ⟨w1, k1, k2⟩ := w.cut e.pre hk
    have e1 : Ext hd as G H as Gk H' := ⟨List.prefix_refl _, fun a o z => k1 a o (e.keep a o z), e.hid⟩
    cases x with
    | dat d => exact h as H' v e1 w1 (RelD.mono k1 r)
    | pr _ _ => exact h.elim
    | ref j =>
      obtain ⟨a, ha, rfl⟩ := r
      by_cases hj : j < as.length
      · have h' : Res K hd W σ as G H (.ok (.ref j) Gk) Q := by simpa only [if_pos hj] using h
        refine h' as H' (.ref a) e1 w1 ⟨a, ?_, rfl⟩
        obtain ⟨t, ht⟩ := e.pre
        rw [← ht, List.getElem?_append_left hj] at ha
        exact ha
      · have h' : Res K hd W σ as G H (match frzV as.length G' 4 (.ref j) with
          | some d => .ok (.dat d) Gk
          | none => .no) Q := by simpa only [if_neg hj] using h
        cases hd : frzV as.length G' 4 (.ref j) with
        | none => rw [hd] at h'; exact h'.elim
        | some d =>
          rw [hd] at h'
          exact h' as H' (.ref a) e1 w1 (frz_rel w k1 k2 4 (x := .ref j) ⟨a, ha, rfl⟩ hd)
theorem leaveX_ok {K : PySem.W.Frag} {W : WX} {σ : St} {as as' : List Addr} {G G' : Gh} {H H' : Hp} {c : Str} {d : D} {dd : Addr} {Q : VK} (w0 : as.length = G.length) (e : Ext hd as G H as' G' H') (w : Wd K hd as' G' H') (t : Thrown K hd as' G' H' c d dd)
    (h : Res K hd W σ as G H (leaveX G.length c d G') Q) : W (.ref (He.ga K c)) (some dd) σ H' := by
  unfold leaveX at h
  rw [← w0] at h
  cases hk : mapO (frzGO as.length G') (G'.take as.length) with
  | none => rw [hk] at h; exact h.elim
  | some Gk =>
    rw [hk] at h
    obtain ⟨w1, k1, k2⟩ := w.cut e.pre hk
    obtain ⟨v, h1, h2⟩ := t
    exact h as H' dd ⟨List.prefix_refl _, fun a o z => k1 a o (e.keep a o z), e.hid⟩ w1 ⟨v, k1 _ _ h1, RelD.mono k1 h2⟩
/-- some of the cells alone (at the places of as0), flat ones; the others may be hidden -/
theorem Wd.part {K : PySem.W.Frag} {hd hd0 as as0 : List Addr} {G G0 : Gh} {H : Hp} (w : Wd K hd as G H) (hl : as0.length = G0.length) (nd : as0.Nodup) (hf : G0.all flatGO = true) (hc : ∀ (i : Nat) (a : Addr) (go : GO), as0[i]? = some a → G0[i]? = some go → ∃ j : Nat, as[j]? = some a ∧ G[j]? = some go)
    (h0 : ∀ a ∈ hd0, a ∈ hd ∨ (a ∉ as0 ∧ liveB as G a = true)) :
    Wd K hd0 as0 G0 H ∧ ∀ a o, Fz hd as G H a = some o → Fz hd0 as0 G0 H a = some o := by
  have live : ∀ a, liveB as0 G0 a = true → liveB as G a = true := fun a h => by
    obtain ⟨i, go, h1, h2, h3⟩ := liveB_iff.mp h
    obtain ⟨j, h4, h5⟩ := hc i a go h1 h2
    exact liveB_iff.mpr ⟨j, go, h4, h5, h3⟩
  have k1 : ∀ a o, Fz hd as G H a = some o → Fz hd0 as0 G0 H a = some o := fun a o h => by
    unfold Fz at h ⊢
    split at h
    · cases h
    · rename_i hn
      rw [if_neg ?_]
      · exact h
      · rw [Bool.or_eq_true]
        rintro (z | z)
        · rcases h0 a (List.contains_iff_mem.mp z) with y | y
          · exact hn (by rw [List.contains_iff_mem.mpr y, Bool.true_or])
          · exact hn (by rw [y.2, Bool.or_true])
        · exact hn (by rw [live a z, Bool.or_true])
  have mem : ∀ a ∈ as0, a ∈ as := fun a ha => by
    obtain ⟨i, hi⟩ := List.mem_iff_getElem?.mp ha
    have hi' : i < G0.length := by rw [← hl]; exact (List.getElem?_eq_some_iff.mp hi).1
    obtain ⟨j, h3, _⟩ := hc i a G0[i] hi (by simp [hi'])
    exact List.mem_of_getElem? h3
  refine ⟨⟨hl, nd, fun i go a h1 h2 => ?_, fun a ha => w.here a (mem a ha), fun a ha => ?_⟩, k1⟩
  · obtain ⟨j, h3, h4⟩ := hc i a go h2 h1
    exact flatGO_rel k1 (List.all_eq_true.mp hf go (List.mem_of_getElem? h1)) (w.cell j go a h4 h3)
  · rcases h0 a ha with y | y
    · exact ⟨(w.hid a y).1, fun hm => (w.hid a y).2 (mem a hm)⟩
    · exact ⟨w.here a (liveB_mem y.2), y.1⟩
theorem leaveT_ok {K : PySem.W.Frag} {W : WX} {σ : St} {as as' : List Addr} {G G' : Gh} {H H' : Hp} {x : Vl} {v : V} {Q : VK} (w0 : as.length = G.length) (e : Ext hd as G H as' G' H') (w : Wd K hd as' G' H') (r : RelVl K as' (Fz hd as' G' H') x v)
    (h : Res K hd W σ as G H (leaveT G.length x G') Q) : Q v H' := by
  unfold leaveT at h
  rw [← w0] at h
  by_cases hf : (G'.take as.length).all flatGO = true
  · rw [if_pos hf] at h
    obtain ⟨t, ht⟩ := e.pre
    have hlen : as.length = (G'.take as.length).length := by
      rw [List.length_take, ← w.len, ← ht, List.length_append]; omega
    have hnd : as.Nodup := by have := w.nd; rw [← ht] at this; exact (List.nodup_append.mp this).1
    have at1 : ∀ (i : Nat) (a : Addr) (go : GO), as[i]? = some a → (G'.take as.length)[i]? = some go → ∃ j : Nat, as'[j]? = some a ∧ G'[j]? = some go := fun i a go h1 h2 => by
      have hi := (List.getElem?_eq_some_iff.mp h1).1
      rw [List.getElem?_take_of_lt hi] at h2
      exact ⟨i, pre_get e.pre h1, h2⟩
    obtain ⟨w1, k1⟩ := w.part (hd0 := hd) hlen hnd hf at1 fun a ha => .inl ha
    have e1 : Ext hd as G H as (G'.take as.length) H' := ⟨List.prefix_refl _, fun a o z => k1 a o (e.keep a o z), e.hid⟩
    cases x with
    | dat d => exact h as H' v e1 w1 (RelD.mono k1 r)
    | pr _ _ => exact h.elim
    | ref j =>
      obtain ⟨a, ha, rfl⟩ := r
      by_cases hj : j < as.length
      · have h' : Res K hd W σ as G H (.ok (.ref j) (G'.take as.length)) Q := by simpa only [if_pos hj] using h
        refine h' as H' (.ref a) e1 w1 ⟨a, ?_, rfl⟩
        rw [← ht, List.getElem?_append_left hj] at ha
        exact ha
      · cases hg : G'[j]? with
        | none =>
          have h' : Res K hd W σ as G H .no Q := by simpa only [if_neg hj, hg] using h
          exact h'.elim
        | some go =>
          by_cases hgo : flatGO go = true
          · have h' : Res K hd W σ as G H (.ok (.ref as.length) (G'.take as.length ++ [go])) Q := by simpa only [if_neg hj, hg, if_pos hgo] using h
            have hin : a ∉ as := fun hm => by
              obtain ⟨i, hi⟩ := List.mem_iff_getElem?.mp hm
              have hi' : i < as.length := (List.getElem?_eq_some_iff.mp hi).1
              have e2 := (List.getElem?_inj (List.getElem?_eq_some_iff.mp ha).1 w.nd).mp (ha.trans (pre_get e.pre hi).symm)
              omega
            obtain ⟨w2, k2⟩ := w.part (hd0 := hd) (as0 := as ++ [a]) (G0 := G'.take as.length ++ [go]) (by simp [← hlen]) (by
                rw [List.nodup_append]
                exact ⟨hnd, by simp, fun b hb c hc => by
                  have : c = a := by simpa using hc
                  subst this
                  exact fun z => hin (z ▸ hb)⟩) (by rw [List.all_append, hf]; simp [hgo]) (fun i b g h1 h2 => by
                by_cases hi : i < as.length
                · rw [List.getElem?_append_left hi] at h1
                  rw [List.getElem?_append_left (by rw [← hlen]; exact hi)] at h2
                  exact at1 i b g h1 h2
                · have hi' : i = as.length := by
                    have := (List.getElem?_eq_some_iff.mp h1).1
                    simp at this
                    omega
                  subst hi'
                  have e2 : b = a := by simpa using h1.symm
                  have e3 : g = go := by
                    rw [List.getElem?_append_right (by rw [← hlen]; exact Nat.le_refl _), ← hlen] at h2
                    simpa using h2.symm
                  subst e2 e3
                  exact ⟨j, ha, hg⟩) (fun b hb => .inl hb)
            exact h' (as ++ [a]) H' (.ref a) ⟨List.prefix_append _ _, fun b o z => k2 b o (e.keep b o z), e.hid⟩ w2 ⟨a, by simp, rfl⟩
          · have h' : Res K hd W σ as G H .no Q := by simpa only [if_neg hj, hg, if_neg hgo] using h
            exact h'.elim
  · rw [if_neg hf] at h
    exact h.elim
theorem leave_ok {K : PySem.W.Frag} {W : WX} {σ : St} {as as' : List Addr} {G G' : Gh} {H H' : Hp} {top : Bool} {x : Vl} {v : V} {Q : VK} (w0 : as.length = G.length) (e : Ext hd as G H as' G' H') (w : Wd K hd as' G' H') (r : RelVl K as' (Fz hd as' G' H') x v)
    (h : Res K hd W σ as G H (leave top G.length x G') Q) : Q v H' := by
  cases top with
  | false => exact leaveF_ok w0 e w r h
  | true => exact leaveT_ok w0 e w r h
end DL
end L2

/-! DLG: calls where it is known that no text of an object is under way (repr needs it) -/
namespace L2
namespace DL
open PySem PySem.Spec PyProof.Rows
variable [HasW]
structure RoomG (k : Nat) (A : Around) : Prop where
  r : Room k A
  g : A.guards = some []
theorem RoomG.mono {j k : Nat} {A : Around} (h : RoomG k A) (l : j ≤ k) : RoomG j A := ⟨h.r.mono l, h.g⟩
theorem RoomG.deeper {k : Nat} {A : Around} (h : RoomG (k + 1) A) (env : Env) : RoomG k (A.deeper env) := ⟨h.r.deeper env, h.g⟩
theorem RoomG.make {k : Nat} {A : Around} (h : RoomG (k + 1) A) (C : Addr) (us : List Value) (kw : List (Str × Value)) : RoomG k (A.under (.builtin "type.__call__" ⟨.ref C :: us, kw⟩)) := ⟨h.r.make C us kw, by
  have e := h.g
  simp only [Around.under, e]
  first | rfl | decide +kernel | kernel_rfl⟩
theorem roomG_caller {k : Nat} (h : Room k callerA) : RoomG k callerA := ⟨h, rfl⟩
/-- the promise of a def -/
structure FnG (P : Program) (w : World) (K : PySem.W.Frag) (mg : Str → Option Value) (base : Heap) (CX : CXT) (k : Nat) (f : Addr) (fd : FuncData) (ps : List Str) (sp : Sp) : Prop where
  len : ∀ vs H Q E, sp vs H Q E → vs.length = ps.length
  run : ∀ (A : Around) (outer : List Env) (s : Shared) (H : Hp) (args : Args) (us : List Value) (vs : List V) (Q : VK) (E : XK), RoomG k A → Env0 P w K mg base A outer s H → BindsTo s fd args (ps.zip us) → Vals vs us → sp vs H Q E →
    codeAny (model P w) A (.call (.ref f) args) (CR CX outer P w H s Q E) s
section
variable {P : Program} {w : World} {K : PySem.W.Frag} {mg : Str → Option Value} {base : Heap} {x qual : Str} {params : Arguments} {body : List Stmt} {scope : Scope} {dvs : List V} {kws : List (Str × V)} {f : Addr} {fd : FuncData}
/-- a def of the head keeps its promise -/
theorem okG {CX : CXT} {N ps : List Str} {k : Nat} {sp : Sp} (F : FunD K x qual params body scope dvs kws f fd) (S : FnScope N ps scope) (ln : ∀ vs H Q E, sp vs H Q E → vs.length = ps.length)
    (hd : ∀ (cdv : Value) (A : Around) (outer : List Env) (s : Shared) (H : Hp) (vs : List V) (Q : VK) (E : XK), RoomG k (A.deeper (envOfC qual scope s.heap.objs.size f cdv)) → sp vs H Q E →
      ∃ t, PSs (cxOf CX P w K mg base N qual scope f cdv A outer s H E) body t ∧ t { nx := fun _ H' => Q .non H', rt := Q } (start N vs) H) : FnG P w K mg base CX (k + 1) f fd ps sp := by
  obtain ⟨oc, od, dV, kV, doc, pm, an, cdv, ct, osl, rfl, lk, hcd, _, _⟩ := F.ex
  refine ⟨ln, fun A outer s H args us vs Q E rm en bi rv hsp => ?_⟩
  have old : ∀ b o, base.get? b = some o → s.heap.get? b = some o := fun b o e => (en.bs b o e).1
  have inK : K.In s.heap := en.mod.kin.keeps old
  have kinds : ∀ y ∈ ps.zip us, scope.names.lookup y.1 = some .local ∨ (scope.names.lookup y.1 = some .cell ∧ ((cellsFrom (s.heap.objs.size + 1) scope.names []).lookup y.1).isSome = true) := by
    rintro ⟨n, v⟩ hy
    rcases S.par n (List.of_mem_zip hy).1 with e | e
    · exact .inl e
    · exact .inr ⟨e, PySem.W.cellsFrom_some _ _ _ (.inl e)⟩
  refine codeAny_call_function rm.r.depth (inK _ _ lk) rfl S.co S.gen rfl (PySem.W.codeRec_of inK hcd) (bi _ _ _ _ ?_)
  refine wpAny_newFunctionEnv_cells S.kind kinds fun env ee s1 inc => ?_
  subst ee
  refine ⟨(en.mod.nolimit.keeps old).keeps inc.toInCall.keep, codeAny_func ?_⟩
  obtain ⟨t, ht, hq⟩ := hd cdv A outer s H vs Q E (rm.deeper _) hsp
  have I0 : Inv (cxOf CX P w K mg base N qual scope f cdv A outer s H E) [] (start N vs) H s1 := inv_start S rm.r.hd en (ln _ _ _ _ hsp) rv inc
  refine wpAny_mono (ht.run [] s1 (start N vs) H _ I0 hq) (fun fl s2 he => ?_) fun _ _ z => z
  have back : ∀ {σ2 : St} {H2 : Hp} {v : V} {u : Value}, Inv (cxOf CX P w K mg base N qual scope f cdv A outer s H E) [] σ2 H2 s2 → RelV v u → Q v H2 → CE outer P w H s Q u s2 :=
    fun {σ2 H2 v u} J ru qv => ⟨v, H2, J.os, J.bare, J.base, J.hok, ru, qv⟩
  cases fl with
  | ret u => obtain ⟨v, σ2, H2, J, ru, qv⟩ := he; exact back J ru qv
  | next => obtain ⟨σ2, H2, J, qv⟩ := he; exact back (v := V.non) (u := Value.none) J rfl qv
  | brk => obtain ⟨_, _, _, qv⟩ := he; exact False.elim qv
  | cont => obtain ⟨_, _, _, qv⟩ := he; exact False.elim qv
end
section
variable {X : Cx} {CX : CXT} {k : Nat} {f C : Addr} {fd : FuncData} {ps : List Str} {sp : Sp} {x m : Str} {p pos apos : Pos} {e o : Expr} {es : List Expr} {ta : TE} {t : TA}
/-- a call by values -/
theorem runG {E : XK} {pins : List (Addr × Obj)} {σ : St} {H : Hp} {s : Shared} {Q : VK} {us : List Value} {vs : List V} (F : FnG X.prog X.w X.K X.mg X.base CX k f fd ps sp) (hr : RoomG k X.A) (hb : Binds X.K fd ps [])
    (hx : ∀ e s', CX X.stack H s E e s' → X.xe e s') (I : Inv X pins σ H s) (rv : Vals vs us) (h : sp vs H Q E) : wpAny (model X.prog X.w) X.A (call (.ref f) us) (EP X pins σ Q) X.xe s := by
  have nl : us.length = ps.length := rv.length.symm.trans (F.len _ _ _ _ h)
  have bi := hb s us I.kIn (by rw [List.append_nil]; exact nl)
  rw [List.append_nil] at bi
  refine wpAny_call (codeAny_mono (F.run X.A X.stack s H ⟨us, []⟩ us vs Q E hr I.env0 bi rv h) fun z s2 hz => ?_)
  cases z with
  | error e => exact hx e s2 hz
  | ok fl =>
    cases fl with
    | ret u => exact I.after hz
    | next => exact hz.elim
    | brk => exact hz.elim
    | cont => exact hz.elim
theorem pe_callG {E : St → XK} (F : FnG X.prog X.w X.K X.mg X.base CX k f fd ps sp) (hr : RoomG k X.A) (hg : Gl X x) (hm : X.mg x = some (.ref f)) (kp : PySem.W.keepIn X.K (.ref f) = true) (hb : Binds X.K fd ps []) (hx : ∀ σ, PassesAt CX X σ (E σ))
    (ha : PA X (e :: es) t) (hdb : (x == ("__debug__" : Str)) = false := by decide) (st : starEach (e :: es) X.env = (false, eval e X.env) :: starEach es X.env := by rfl) (pl : (backTo pos (starEach es X.env)).any (·.1) = false := by rfl) :
    PE X (.Call (.Name x p) (e :: es) [] pos) (tCallS sp E t) :=
  ⟨fun pins s σ H Q I h => wpAny_Call_Name_kw (ld_glob I hg hm (PySem.W.callWith_K (h₀ := X.base) I.ok.mod.kin kp (thn (ha.run pos pins s σ H _ I h) fun us s1 ⟨vs, H1, I1, rv, q⟩ =>
    ⟨I1.kIn, runG F hr hb (fun e s2 c => hx σ pins H1 s1 e s2 I1 c) I1 rv q⟩) st pl) hdb)⟩
theorem pe_methG {E : XK} {pl : Sem Bool} (he : PE X o ta) (c : Cls X.K C) (hm : Meth X.K C m f) (F : FnG X.prog X.w X.K X.mg X.base CX k f fd ps sp) (hr : RoomG k X.A) (hb : Binds X.K fd ps []) (hx : Passes CX X E) (ha : PA X (e :: es) t)
    (st : starEach (e :: es) X.env = (false, eval e X.env) :: starEach es X.env := by rfl) (np : (backTo pos (starEach es X.env)).any (·.1) = false := by rfl)
    (ht : eval (.Call (.Attribute o m apos) (e :: es) [] pos) X.env = (do
      let ov ← eval o X.env
      standAt apos.atName
      let (f, first) ← holding [ov] (getMethod ov m pl)
      callWith pos f first (backTo pos (starEach (e :: es) X.env)) (backToKw pos (keywordEach [] X.env))) := by rfl) :
    PE X (.Call (.Attribute o m apos) (e :: es) [] pos) (tMeth C m sp [] E ta t) := by
  refine ⟨fun pins s σ H Q I h => PySem.W.methodCall_KW (pl := pl) (thn (he.run pins s σ H _ I h) fun u s1 ⟨xv, H1, I1, rx, a, dx, fs, ex, ea, nl, q⟩ => ?_) ht⟩
  subst ex
  cases (show u = Value.ref a from rx)
  refine getmeth_ok I1 ea c hm nl (PySem.W.callWith_K (first := [.ref a]) (h₀ := X.base) I.ok.mod.kin hm.kp (thn (ha.run pos pins s1 σ H1 _ I1 q) fun us s2 ⟨vs, H2, I2, rv, q2⟩ => ⟨I2.kIn, ?_⟩) st np)
  have q2 : sp (V.ref a :: (vs ++ [])) H2 Q E := q2
  rw [List.append_nil] at q2
  exact runG (us := .ref a :: us) (vs := .ref a :: vs) F hr hb (fun e s3 z => hx pins σ H2 s2 e s3 I2 z) I2 (.cons rfl rv) q2
theorem pe_meth0G {E : XK} {pl : Sem Bool} (he : PE X o ta) (c : Cls X.K C) (hm : Meth X.K C m f) (F : FnG X.prog X.w X.K X.mg X.base CX k f fd ps sp) (hr : RoomG k X.A) (hb : Binds X.K fd ps []) (hx : Passes CX X E)
    (ht : eval (.Call (.Attribute o m apos) [] [] pos) X.env = (do
      let ov ← eval o X.env
      standAt apos.atName
      let (f, first) ← holding [ov] (getMethod ov m pl)
      callWith pos f first (backTo pos (starEach [] X.env)) (backToKw pos (keywordEach [] X.env))) := by rfl) :
    PE X (.Call (.Attribute o m apos) [] [] pos) (tMeth C m sp [] E ta tNil) := by
  refine ⟨fun pins s σ H Q I h => PySem.W.methodCall_KW (pl := pl) (thn (he.run pins s σ H _ I h) fun u s1 ⟨xv, H1, I1, rx, a, dx, fs, ex, ea, nl, q⟩ => ?_) ht⟩
  subst ex
  cases (show u = Value.ref a from rx)
  refine getmeth_ok I1 ea c hm nl (PySem.W.callWith_K0 (first := [.ref a]) I1.kIn hm.kp ?_)
  exact runG (us := [.ref a]) (vs := [.ref a]) F hr hb (fun e s3 z => hx pins σ H1 s1 e s3 I1 z) I1 (.cons rfl .nil) q
theorem pe_makeG {E : XK} (M : Mk X.K C f) (F : FnG X.prog X.w X.K X.mg X.base CX k f fd ps sp) (hr : RoomG (k + 1) X.A) (hg : Gl X x) (hm : X.mg x = some (.ref C)) (hb : Binds X.K fd ps []) (hx : Passes CX X E)
    (ha : PA X (e :: es) t) (hdb : (x == ("__debug__" : Str)) = false := by decide) (st : starEach (e :: es) X.env = (false, eval e X.env) :: starEach es X.env := by rfl) (np : (backTo pos (starEach es X.env)).any (·.1) = false := by rfl) :
    PE X (.Call (.Name x p) (e :: es) [] pos) (tMake C sp [] E t) := by
  refine ⟨fun pins s σ H Q I h => wpAny_Call_Name_kw (ld_glob I hg hm (PySem.W.callWith_K (h₀ := X.base) I.ok.mod.kin M.kp (thn (ha.run pos pins s σ H _ I h) fun us s1 ⟨vs, H1, I1, rv, q⟩ => ⟨I1.kIn, ?_⟩) st np) hdb)⟩
  have hq := q (s1.heap.objs.size + 1) s1.heap.objs.size (I1.hok.fresh (Nat.le_succ _)) (I1.hok.fresh (Nat.le_refl _)) (Nat.ne_of_lt (Nat.lt_succ_self _))
  rw [List.append_nil] at hq
  have J := Inv.made (C := C) I1
  have rv2 : Vals (V.ref (s1.heap.objs.size + 1) :: vs) (Value.ref (s1.heap.objs.size + 1) :: us) := .cons rfl rv
  have nl : (Value.ref (s1.heap.objs.size + 1) :: us).length = ps.length := rv2.length.symm.trans (F.len _ _ _ _ hq)
  have bi := hb { s1 with heap := (s1.heap.push PySem.W.emptyDict).push (PySem.W.instObj C s1.heap.objs.size) } (Value.ref (s1.heap.objs.size + 1) :: us) J.kIn (by rw [List.append_nil]; exact nl)
  rw [List.append_nil] at bi
  refine wpAny_call (make_map (f := f) I1.kIn M.makes M.init (beq_iff_eq.mp M.fn) (codeAny_mono (F.run _ X.stack _ _ ⟨Value.ref (s1.heap.objs.size + 1) :: us, []⟩ _ _ _ _ (hr.make C us []) (J.env0.make C us []) bi rv2 hq) fun z s2 hz => ?_))
  cases z with
  | error e => exact hx pins σ _ _ e s2 J hz
  | ok fl =>
    cases fl with
    | ret u =>
      obtain ⟨v, H3, I3, ru, ev, q3⟩ := J.after hz
      subst ev
      exact ⟨ru, ⟨V.ref (s1.heap.objs.size + 1), H3, I3, rfl, q3⟩⟩
    | next => exact hz.elim
    | brk => exact hz.elim
    | cont => exact hz.elim
end
end DL
end L2

/-! DL6: promises by meanings, the call of a def -/
namespace L2
namespace DL
open PySem PySem.Spec PyProof.Rows
variable [HasW]
abbrev FD := List Vl → Gh → Rs Vl
/-- a def's promise: its meaning f over the cells that it is handed -/
def spD (K : PySem.W.Frag) (np : Nat) (f : FD) : Sp := fun vs H Q E => vs.length = np ∧ ∃ hd as G xs, Wd K hd as G H ∧ RelVls K as (Fz hd as G H) xs vs ∧ Res K hd (fun c dd _ H' => E c dd H') [] as G H (f xs G) Q
theorem startE_at {K : PySem.W.Frag} {hd as : List Addr} {G : Gh} {H : Hp} {N : List Str} {xs : List Vl} {vs : List V} (w : Wd K hd as G H) (r : RelVls K as (Fz hd as G H) xs vs) : At K hd as (startE N.length xs) G (start N vs) H := by
  have hl := Paired.length r
  refine ⟨w, by simp [startE, start, hl], fun i x h => ?_⟩
  unfold startE at h
  have hi : i < xs.length := by
    by_cases hi : i < xs.length
    · exact hi
    · rw [List.getElem?_append_right (by simpa using hi), List.getElem?_replicate] at h
      split at h <;> cases h
  rw [List.getElem?_append_left (by simpa using hi), List.getElem?_map] at h
  cases e : xs[i]? with
  | none => rw [e] at h; cases h
  | some y =>
    rw [e] at h
    have h' : y = x := by simpa using h
    subst h'
    obtain ⟨v, h1, h2⟩ := paired_get r e
    refine ⟨v, ?_, h2⟩
    unfold start
    rw [List.getElem?_append_left (by rw [List.length_map, ← hl]; exact hi), List.getElem?_map, h1]
    rfl
section
variable {P : Program} {w : World} {K : PySem.W.Frag} {mg : Str → Option Value} {base : Heap} {x qual : Str} {params : Arguments} {body : List Stmt} {scope : Scope} {dvs : List V} {kws : List (Str × V)} {f : Addr} {fd : FuncData}
/-- THE RULE: the def keeps its meaning -/
theorem okD {N ps : List Str} {k : Nat} {top : Bool} {sd : SD} (F : FunD K x qual params body scope dvs kws f fd) (S : FnScope N ps scope)
    (hb : ∀ (cdv : Value) (A : Around) (outer : List Env) (s : Shared) (H : Hp) (E : XK), RoomG k (A.deeper (envOfC qual scope s.heap.objs.size f cdv)) → QSs (cxOf (L2.CX P w) P w K mg base N qual scope f cdv A outer s H E) (fun cls d _ H' => E cls d H') body sd) :
    FnG P w K mg base (L2.CX P w) (k + 1) f fd ps (spD K ps.length (runD top N.length sd)) := by
  refine okG F S (fun vs H Q E h => h.1) (fun cdv A outer s H vs Q E hr h => ⟨_, hb cdv A outer s H E hr, ?_⟩)
  obtain ⟨_, hd, as, G, xs, w0, r, q⟩ := h
  refine ⟨hd, as, startE N.length xs, G, startE_at w0 r, ?_⟩
  show ResS K hd (fun cls d _ H' => E cls d H') as G H (sd (startE N.length xs) G) { nx := fun _ H' => Q .non H', rt := Q }
  unfold runD at q
  cases e : sd (startE N.length xs) G with
  | nx ρ' G' => rw [e] at q; exact fun as' H' σ' ee a => leave_ok (x := .dat .non) (v := .non) w0.len ee a.wd RelD.non q
  | rt y G' => rw [e] at q; exact fun as' H' v ee w1 r1 => leave_ok w0.len ee w1 r1 q
  | bk ρ' G' => rw [e] at q; exact q.elim
  | ct ρ' G' => rw [e] at q; exact q.elim
  | ex c d ρ' G' => rw [e] at q; exact fun as' H' σ' dd ee a t => leaveX_ok (W := fun cls d _ H' => E cls d H') (σ := []) w0.len ee a.wd t q
  | no => rw [e] at q; exact q.elim
end

/-! ### the call: the cells of the arguments are handed in and taken back -/
def refsOf : List Vl → List Nat
  | [] => []
  | .dat _ :: r => refsOf r
  | .ref i :: r => i :: refsOf r
  | .pr _ i :: r => i :: refsOf r
def renum : Nat → List Vl → List Vl
  | _, [] => []
  | n, .dat d :: r => .dat d :: renum n r
  | n, .ref _ :: r => .ref n :: renum (n + 1) r
  | n, .pr d _ :: r => .pr d n :: renum (n + 1) r
def pickOne (G : Gh) (i : Nat) : Option GO := match G[i]? with
  | some go => if flatGO go = true then some go else none
  | none => none
def putBack : Gh → List Nat → List GO → Gh
  | G, r :: rs, go :: L => putBack (G.set r go) rs L
  | G, _, _ => G
def back (G : Gh) (rs : List Nat) : Rs Vl → Rs Vl
  | .ok y L => if L.all flatGO = true then (match y with
    | .dat d => if L.length = rs.length then .ok (.dat d) (putBack G rs L) else .no
    | .pr _ _ => .no
    | .ref j => (match rs[j]? with
      | some r => if L.length = rs.length then .ok (.ref r) (putBack G rs L) else .no
      | none => if j = rs.length ∧ L.length = rs.length + 1 then (match L[j]? with
        | some go => .ok (.ref G.length) (putBack G rs L ++ [go])
        | none => .no) else .no)) else .no
  | .ex c d L => if L.all flatGO = true ∧ L.length = rs.length then .ex c d (putBack G rs L) else .no
  | .no => .no
def callAt (np : Nat) (f : FD) (xs : List Vl) : M Vl := fun G => if xs.length = np then (match mapO (pickOne G) (refsOf xs) with
  | some L => if (refsOf xs).Nodup then back G (refsOf xs) (f (renum 0 xs) L) else .no
  | none => .no) else .no
def callF (np : Nat) (f : FD) (m : Ev → M (List Vl)) : Ev → M Vl := fun ρ => andThen (m ρ) (callAt np f)

theorem putBack_length : ∀ (G : Gh) (rs : List Nat) (L : List GO), (putBack G rs L).length = G.length
  | G, [], L => by cases L <;> rfl
  | G, r :: rs, [] => rfl
  | G, r :: rs, go :: L => by rw [putBack, putBack_length, List.length_set]
theorem putBack_out : ∀ (G : Gh) (rs : List Nat) (L : List GO) (i : Nat), i ∉ rs → (putBack G rs L)[i]? = G[i]?
  | G, [], L, i, _ => by cases L <;> rfl
  | G, r :: rs, [], i, _ => rfl
  | G, r :: rs, go :: L, i, h => by
    simp only [List.mem_cons, not_or] at h
    rw [putBack, putBack_out _ rs L i h.2, List.getElem?_set_ne (Ne.symm h.1)]
theorem putBack_in : ∀ (G : Gh) (rs : List Nat) (L : List GO) (m r : Nat) (go : GO), rs.Nodup → (∀ i ∈ rs, i < G.length) → rs[m]? = some r → L[m]? = some go → (putBack G rs L)[r]? = some go
  | G, [], L, m, r, go, _, _, h, _ => by simp at h
  | G, r0 :: rs, [], m, r, go, _, _, _, h => by simp at h
  | G, r0 :: rs, g0 :: L, 0, r, go, nd, hl, h1, h2 => by
    simp at h1 h2
    subst h1 h2
    rw [List.nodup_cons] at nd
    rw [putBack, putBack_out _ rs L r0 nd.1, List.getElem?_set_self (hl r0 (List.mem_cons_self ..))]
  | G, r0 :: rs, g0 :: L, m + 1, r, go, nd, hl, h1, h2 => by
    rw [List.nodup_cons] at nd
    rw [putBack]
    exact putBack_in _ rs L m r go nd.2 (fun i hi => by rw [List.length_set]; exact hl i (List.mem_cons_of_mem _ hi)) (by simpa using h1) (by simpa using h2)
theorem mapO_some {α β : Type} {f : α → Option β} : ∀ {xs : List α}, (∀ x ∈ xs, ∃ y, f x = some y) → ∃ ys, mapO f xs = some ys
  | [], _ => ⟨[], rfl⟩
  | x :: xs, h => by
    obtain ⟨y, hy⟩ := h x (List.mem_cons_self ..)
    obtain ⟨ys, hys⟩ := mapO_some (xs := xs) fun z hz => h z (List.mem_cons_of_mem _ hz)
    exact ⟨y :: ys, by simp [mapO, hy, hys]⟩
theorem mapO_at {α β : Type} {f : α → Option β} : ∀ {xs : List α} {ys : List β} {i : Nat} {x : α}, mapO f xs = some ys → xs[i]? = some x → ∃ y, ys[i]? = some y ∧ f x = some y
  | [], ys, i, x, h, e => by simp at e
  | x0 :: xs, zs, 0, x, h, e => by
    obtain ⟨y', ys, rfl, h1, h2⟩ := mapO_cons h
    simp at e; subst e
    exact ⟨y', rfl, h1⟩
  | x0 :: xs, zs, i + 1, x, h, e => by
    obtain ⟨y', ys, rfl, h1, h2⟩ := mapO_cons h
    obtain ⟨y, h3, h4⟩ := mapO_at (i := i) h2 (by simpa using e)
    exact ⟨y, by simpa using h3, h4⟩
theorem renum_rel {K : PySem.W.Frag} {as al : List Addr} {F F' : Hp} (k : ∀ a o, F a = some o → F' a = some o) : ∀ {xs : List Vl} {vs : List V} {n : Nat}, RelVls K as F xs vs → (∀ (m r : Nat), (refsOf xs)[m]? = some r → ∃ a, as[r]? = some a ∧ al[n + m]? = some a) → RelVls K al F' (renum n xs) vs
  | [], _, _, r, _ => by cases r; exact .nil
  | .dat d :: xs, _, n, r, h => by
    cases r with
    | cons r1 r2 => exact .cons (RelD.mono k r1) (renum_rel k r2 h)
  | .ref i :: xs, _, n, r, h => by
    cases r with
    | cons r1 r2 =>
      obtain ⟨a, ha, rfl⟩ := r1
      obtain ⟨a', h1, h2⟩ := h 0 i rfl
      rw [ha] at h1; cases h1
      refine .cons ⟨a, by simpa using h2, rfl⟩ (renum_rel k r2 fun m r hm => ?_)
      obtain ⟨b, h3, h4⟩ := h (m + 1) r (by simpa [refsOf] using hm)
      exact ⟨b, h3, by rw [show n + 1 + m = n + (m + 1) by omega]; exact h4⟩
  | .pr d i :: xs, _, n, r, h => by
    cases r with
    | cons r1 r2 =>
      obtain ⟨p, u, a, rfl, g1, g2, ha⟩ := r1
      obtain ⟨a', h1, h2⟩ := h 0 i rfl
      rw [ha] at h1; cases h1
      refine .cons ⟨p, u, a, rfl, SqT.mono k g1, RelD.mono k g2, by simpa using h2⟩ (renum_rel k r2 fun m r hm => ?_)
      obtain ⟨b, h3, h4⟩ := h (m + 1) r (by simpa [refsOf] using hm)
      exact ⟨b, h3, by rw [show n + 1 + m = n + (m + 1) by omega]; exact h4⟩
theorem callAt_ok {K : PySem.W.Frag} {W : WX} {σ : St} {hd as : List Addr} {G : Gh} {H : Hp} {np : Nat} {f : FD} {xs : List Vl} {vs : List V} {Q : VK} (w : Wd K hd as G H) (r : RelVls K as (Fz hd as G H) xs vs) (h : Res K hd W σ as G H (callAt np f xs G) Q) :
    spD K np f vs H Q (WE W σ) := by
  unfold callAt at h
  by_cases hn : xs.length = np
  case neg => rw [if_neg hn] at h; exact h.elim
  rw [if_pos hn] at h
  refine ⟨by rw [← Paired.length r]; exact hn, ?_⟩
  generalize hrs : refsOf xs = rs at h
  cases hL : mapO (pickOne G) rs with
  | none => rw [hL] at h; exact h.elim
  | some L =>
    rw [hL] at h
    by_cases hnd : rs.Nodup
    case neg => simp only [if_neg hnd] at h; exact h.elim
    simp only [if_pos hnd] at h
    -- the cells of the arguments
    have hpick : ∀ (m : Nat) (go : GO), L[m]? = some go → ∃ r, rs[m]? = some r ∧ G[r]? = some go ∧ flatGO go = true := fun m go hm => by
      obtain ⟨r, h1, h2⟩ := mapO_get hL hm
      refine ⟨r, h1, ?_⟩
      unfold pickOne at h2
      cases e : G[r]? with
      | none => rw [e] at h2; cases h2
      | some g =>
        rw [e] at h2
        by_cases hf : flatGO g = true
        · simp only [if_pos hf] at h2
          cases h2
          exact ⟨rfl, hf⟩
        · simp only [if_neg hf] at h2
          cases h2
    have hlt : ∀ i ∈ rs, i < G.length := fun i hi => by
      obtain ⟨m, hm⟩ := List.mem_iff_getElem?.mp hi
      obtain ⟨go, h1, h2⟩ := mapO_at hL hm
      obtain ⟨r, h3, h4, _⟩ := hpick m go h1
      rw [hm] at h3; cases h3
      exact (List.getElem?_eq_some_iff.mp h4).1
    obtain ⟨al, hal⟩ : ∃ al, mapO (fun r => as[r]?) rs = some al := mapO_some fun r hr => ⟨as[r]'(by rw [w.len]; exact hlt r hr), by simp⟩
    have hlenL : L.length = rs.length := mapO_length hL
    have hlenA : al.length = rs.length := mapO_length hal
    have ndA : al.Nodup := by
      refine List.pairwise_iff_getElem.mpr fun i j hi hj hij e => ?_
      obtain ⟨r1, h1, h2⟩ := mapO_get (i := i) (y := al[i]) hal (by simp)
      obtain ⟨r2, h3, h4⟩ := mapO_get (i := j) (y := al[j]) hal (by simp)
      have h2' : as[r1]? = some al[i] := h2
      have h4' : as[r2]? = some al[j] := h4
      rw [← e] at h4'
      have e2 : r1 = r2 := (List.getElem?_inj (List.getElem?_eq_some_iff.mp h2').1 w.nd).mp (h2'.trans h4'.symm)
      subst e2
      have e3 : i = j := (List.getElem?_inj (by omega) hnd).mp (h1.trans h3.symm)
      omega
    -- what is hidden of the callee: what is hidden here, and the other cells
    obtain ⟨h0, hh0⟩ : ∃ h0 : List Addr, ∀ a, a ∈ h0 ↔ (a ∈ hd ∨ (a ∈ as ∧ a ∉ al ∧ liveB as G a = true)) := ⟨hd ++ as.filter fun a => !al.contains a && liveB as G a, fun a => by
      rw [List.mem_append, List.mem_filter, Bool.and_eq_true, Bool.not_eq_true']
      constructor
      · rintro (z | z)
        · exact .inl z
        · refine .inr ⟨z.1, fun hm => ?_, z.2.2⟩
          have z2 := z.2.1
          rw [List.contains_iff_mem.mpr hm] at z2
          cases z2
      · rintro (z | ⟨z1, z2, z3⟩)
        · exact .inl z
        · exact .inr ⟨z1, not_hid z2, z3⟩⟩
    have hfL : L.all flatGO = true := List.all_eq_true.mpr fun go hm => by
      obtain ⟨m, hm⟩ := List.mem_iff_getElem?.mp hm
      exact (hpick m go hm).choose_spec.2.2
    have hc : ∀ (i : Nat) (a : Addr) (go : GO), al[i]? = some a → L[i]? = some go → ∃ j : Nat, as[j]? = some a ∧ G[j]? = some go := fun i a go h1 h2 => by
      obtain ⟨r1, h3, h4⟩ := mapO_get hal h1
      obtain ⟨r2, h5, h6, _⟩ := hpick i go h2
      rw [h3] at h5; cases h5
      exact ⟨r1, h4, h6⟩
    obtain ⟨wl, kl⟩ := w.part (hd0 := h0) (as0 := al) (G0 := L) (by rw [hlenA, hlenL]) ndA hfL hc fun a ha => by
      rcases (hh0 a).mp ha with z | ⟨z1, z2, z3⟩
      · exact .inl z
      · exact .inr ⟨z2, z3⟩
    have hrel : RelVls K al (Fz h0 al L H) (renum 0 xs) vs := renum_rel kl r fun m r hm => by
      rw [hrs] at hm
      obtain ⟨a, h1, h2⟩ := mapO_at hal hm
      exact ⟨a, h2, by simpa using h1⟩
    refine ⟨h0, al, L, renum 0 xs, wl, hrel, ?_⟩
    -- back again
    have live0 : ∀ a, liveB al L a = true → ∃ r, r ∈ rs ∧ as[r]? = some a := fun a ha => by
      obtain ⟨i, go, h1, h2, h3⟩ := liveB_iff.mp ha
      obtain ⟨r1, h4, h5⟩ := mapO_get hal h1
      exact ⟨r1, List.mem_of_getElem? h4, h5⟩
    have alAs : ∀ a ∈ al, a ∈ as := fun a ha => by
      obtain ⟨i, hi⟩ := List.mem_iff_getElem?.mp ha
      obtain ⟨r1, h4, h5⟩ := mapO_get hal hi
      exact List.mem_of_getElem? h5
    -- the state behind: as, with the cells' new contents
    have after : ∀ (al' : List Addr) (L' : Gh) (H' : Hp), Ext h0 al L H al' L' H' → Wd K h0 al' L' H' → L'.all flatGO = true → rs.length ≤ L'.length →
        (∀ a o, Fz h0 al' L' H' a = some o → Fz hd as (putBack G rs L') H' a = some o) ∧ (∀ a ∈ as, H' a ≠ none) ∧ (∀ a ∈ hd, H' a = H a) ∧
        ∀ (as2 : List Addr) (F2 : Hp), as <+: as2 → (∀ a o, Fz h0 al' L' H' a = some o → F2 a = some o) → ∀ (i : Nat) (go : GO) (a : Addr), (putBack G rs L')[i]? = some go → as[i]? = some a → RelGO K as2 F2 H' a go := fun al' L' H' ee wl' hf' hge => by
      have preA : ∀ {i : Nat} {a : Addr}, al[i]? = some a → al'[i]? = some a := fun h => pre_get ee.pre h
      have hidA : ∀ a, a ∈ as → a ∉ al → liveB as G a = true → H' a = H a := fun a h1 h2 h3 => ee.hid a ((hh0 a).mpr (.inr ⟨h1, h2, h3⟩))
      have hidD : ∀ a ∈ hd, H' a = H a := fun a h1 => ee.hid a ((hh0 a).mpr (.inl h1))
      have hlive : ∀ a, liveB as (putBack G rs L') a = true → a ∈ al ∨ (a ∉ al ∧ liveB as G a = true) := fun a ha => by
        by_cases hm : a ∈ al
        · exact .inl hm
        · refine .inr ⟨hm, ?_⟩
          obtain ⟨i, go, h1, h2, h3⟩ := liveB_iff.mp ha
          have hi : i ∉ rs := fun hi => hm (by
            obtain ⟨m, hm'⟩ := List.mem_iff_getElem?.mp hi
            obtain ⟨a', h4, h5⟩ := mapO_at hal hm'
            have h5' : as[i]? = some a' := h5
            rw [h1] at h5'; cases h5'
            exact List.mem_of_getElem? h4)
          rw [putBack_out _ _ _ _ hi] at h2
          exact liveB_iff.mpr ⟨i, go, h1, h2, h3⟩
      -- frozen there is frozen here
      have k2 : ∀ a o, Fz h0 al' L' H' a = some o → Fz hd as (putBack G rs L') H' a = some o := fun a o z => by
        have z' := Fz.of z
        unfold Fz at z ⊢
        split at z
        · cases z
        · rename_i hn
          rw [if_neg ?_]
          · exact z
          · rw [Bool.or_eq_true]
            rintro (y | y)
            · exact hn (by rw [List.contains_iff_mem.mpr ((hh0 a).mpr (.inl (List.contains_iff_mem.mp y))), Bool.true_or])
            · rcases hlive a y with y | ⟨y1, y2⟩
              · obtain ⟨i, hi⟩ := List.mem_iff_getElem?.mp y
                have hi' : i < L'.length := by
                  have := (List.getElem?_eq_some_iff.mp hi).1
                  omega
                have on : (L'[i]).on = true := flatGO_on (List.all_eq_true.mp hf' _ (List.getElem_mem hi'))
                exact hn (by rw [liveB_iff.mpr ⟨i, L'[i], preA hi, by simp [hi'], on⟩, Bool.or_true])
              · exact hn (by rw [List.contains_iff_mem.mpr ((hh0 a).mpr (.inr ⟨liveB_mem y2, y1, y2⟩)), Bool.true_or])
      have there : ∀ a ∈ as, H' a ≠ none := fun a ha => by
        by_cases hm : a ∈ al
        · exact wl'.here a (by obtain ⟨t, ht⟩ := ee.pre; rw [← ht]; exact List.mem_append_left _ hm)
        · by_cases hlv : liveB as G a = true
          · rw [hidA a ha hm hlv]
            exact w.here a ha
          · have hnh : a ∉ hd := fun z => (w.hid a z).2 ha
            obtain ⟨o, ho⟩ := Option.ne_none_iff_exists'.mp (w.here a ha)
            have z : Fz hd as G H a = some o := by
              unfold Fz
              rw [if_neg (by rw [not_hid hnh, Bool.false_or]; exact hlv)]
              exact ho
            have z2 := Fz.of (ee.keep a o (kl a o z))
            rw [z2]
            exact fun y => by cases y
      refine ⟨k2, there, hidD, fun as2 F2 p2 kF i go a h1 h2 => ?_⟩
      by_cases hi : i ∈ rs
      · obtain ⟨m, hm⟩ := List.mem_iff_getElem?.mp hi
        have hm' : m < L'.length := by
          have := (List.getElem?_eq_some_iff.mp hm).1
          omega
        rw [putBack_in G rs L' m i L'[m] hnd hlt hm (by simp [hm'])] at h1
        cases h1
        obtain ⟨a', h4, h5⟩ := mapO_at hal hm
        have h5' : as[i]? = some a' := h5
        rw [h2] at h5'; cases h5'
        exact flatGO_rel kF (List.all_eq_true.mp hf' _ (List.getElem_mem hm')) (wl'.cell m L'[m] a (by simp [hm']) (preA h4))
      · rw [putBack_out _ _ _ _ hi] at h1
        have hm : a ∉ al := fun hm => hi (by
          obtain ⟨m, hm'⟩ := List.mem_iff_getElem?.mp hm
          obtain ⟨r1, h4, h5⟩ := mapO_get hal hm'
          have h5' : as[r1]? = some a := h5
          have e2 : r1 = i := (List.getElem?_inj (List.getElem?_eq_some_iff.mp h5').1 w.nd).mp (h5'.trans h2.symm)
          rw [← e2]
          exact List.mem_of_getElem? h4)
        by_cases hon : go.on = true
        · have hlv : liveB as G a = true := liveB_iff.mpr ⟨i, go, h2, h1, hon⟩
          exact (w.cell i go a h1 h2).mono p2 (fun b o z => kF b o (ee.keep b o (kl b o z))) fun u e => by rw [hidA a (List.mem_of_getElem? h2) hm hlv]; exact e
        · cases go with
          | gone => trivial
          | lst _ => exact absurd rfl hon
          | dct _ => exact absurd rfl hon
          | dcN _ => exact absurd rfl hon
          | ins _ _ => exact absurd rfl hon
    have after1 : ∀ (al' : List Addr) (L' : Gh) (H' : Hp), Ext h0 al L H al' L' H' → Wd K h0 al' L' H' → L'.all flatGO = true → rs.length ≤ L'.length →
        Wd K hd as (putBack G rs L') H' ∧ Ext hd as G H as (putBack G rs L') H' ∧ ∀ a o, Fz h0 al' L' H' a = some o → Fz hd as (putBack G rs L') H' a = some o := fun al' L' H' ee wl' hf' hge => by
      obtain ⟨k2, there, hidD, cells⟩ := after al' L' H' ee wl' hf' hge
      exact ⟨⟨by rw [putBack_length]; exact w.len, w.nd, cells as _ (List.prefix_refl _) k2, there, fun a ha => ⟨by rw [hidD a ha]; exact (w.hid a ha).1, (w.hid a ha).2⟩⟩, ⟨List.prefix_refl _, fun a o z => k2 a o (ee.keep a o (kl a o z)), hidD⟩, k2⟩
    cases hf : f (renum 0 xs) L with
    | no => rw [hf] at h; exact h.elim
    | ex c d L' =>
      rw [hf] at h
      unfold back at h
      by_cases hb : L'.all flatGO = true ∧ L'.length = rs.length
      · simp only [if_pos hb] at h
        intro al' H' dd ee wl' t
        obtain ⟨w2, e2, k2⟩ := after1 al' L' H' ee wl' hb.1 (by omega)
        obtain ⟨v, t1, t2⟩ := t
        exact h as H' dd e2 w2 ⟨v, k2 _ _ t1, RelD.mono k2 t2⟩
      · simp only [if_neg hb] at h
        exact h.elim
    | ok y L' =>
      rw [hf] at h
      unfold back at h
      by_cases hb : L'.all flatGO = true
      case neg => simp only [if_neg hb] at h; exact h.elim
      simp only [if_pos hb] at h
      intro al' H' v ee wl' ry
      cases y with
      | pr _ _ => exact h.elim
      | dat d =>
        by_cases hlen : L'.length = rs.length
        · simp only [if_pos hlen] at h
          obtain ⟨w2, e2, k2⟩ := after1 al' L' H' ee wl' hb (by omega)
          exact h as H' v e2 w2 (RelD.mono k2 ry)
        · simp only [if_neg hlen] at h
          exact h.elim
      | ref j =>
        obtain ⟨a, ha, rfl⟩ := ry
        cases hj : rs[j]? with
        | some r0 =>
          simp only [hj] at h
          by_cases hlen : L'.length = rs.length
          · simp only [if_pos hlen] at h
            obtain ⟨w2, e2, k2⟩ := after1 al' L' H' ee wl' hb (by omega)
            obtain ⟨a', h4, h5⟩ := mapO_at hal hj
            have z := pre_get ee.pre h4
            rw [ha] at z; cases z
            exact h as H' (.ref a) e2 w2 ⟨a, h5, rfl⟩
          · simp only [if_neg hlen] at h
            exact h.elim
        | none =>
          simp only [hj] at h
          by_cases hlen : j = rs.length ∧ L'.length = rs.length + 1
          case neg => simp only [if_neg hlen] at h; exact h.elim
          simp only [if_pos hlen] at h
          cases hg : L'[j]? with
          | none => rw [hg] at h; exact h.elim
          | some go =>
            rw [hg] at h
            obtain ⟨k2, there, hidD, cells⟩ := after al' L' H' ee wl' hb (by omega)
            have hlen2 : as.length = (putBack G rs L').length := by rw [putBack_length]; exact w.len
            have hgo : flatGO go = true := List.all_eq_true.mp hb go (List.mem_of_getElem? hg)
            -- the new cell is none of ours
            have hal' : a ∉ al := fun hm => by
              obtain ⟨i, hi⟩ := List.mem_iff_getElem?.mp hm
              have hi' := (List.getElem?_eq_some_iff.mp hi).1
              have e4 : i = j := (List.getElem?_inj (List.getElem?_eq_some_iff.mp (pre_get ee.pre hi)).1 wl'.nd).mp ((pre_get ee.pre hi).trans ha.symm)
              omega
            have hnh0 : a ∉ h0 := fun z => (wl'.hid a z).2 (List.mem_of_getElem? ha)
            have liveA : liveB al' L' a = true := liveB_iff.mpr ⟨j, go, ha, hg, flatGO_on hgo⟩
            have hin : a ∉ as := fun hm => by
              by_cases hlv : liveB as G a = true
              · exact hnh0 ((hh0 a).mpr (.inr ⟨hm, hal', hlv⟩))
              · have hnh : a ∉ hd := fun z => (w.hid a z).2 hm
                obtain ⟨o, ho⟩ := Option.ne_none_iff_exists'.mp (w.here a hm)
                have z : Fz hd as G H a = some o := by
                  unfold Fz
                  rw [if_neg (by rw [not_hid hnh, Bool.false_or]; exact hlv)]
                  exact ho
                have z2 := ee.keep a o (kl a o z)
                unfold Fz at z2
                rw [liveA, Bool.or_true, if_pos rfl] at z2
                cases z2
            have hnhd : a ∉ hd := fun z => hnh0 ((hh0 a).mpr (.inl z))
            have Ha : H' a ≠ none := wl'.here a (List.mem_of_getElem? ha)
            have k3 : ∀ b o, Fz h0 al' L' H' b = some o → Fz hd (as ++ [a]) (putBack G rs L' ++ [go]) H' b = some o := fun b o z => by
              have z2 := k2 b o z
              have hne : b ≠ a := fun e => by
                subst e
                unfold Fz at z
                rw [liveA, Bool.or_true, if_pos rfl] at z
                cases z
              unfold Fz at z2 ⊢
              split at z2
              · cases z2
              · rename_i hn
                rw [if_neg ?_]
                · exact z2
                · rw [liveB_app hlen2, Bool.or_eq_true, Bool.or_eq_true]
                  rintro (y | y | y)
                  · exact hn (by rw [y, Bool.true_or])
                  · exact hn (by rw [y, Bool.or_true])
                  · rw [Bool.and_eq_true] at y
                    exact hne (beq_iff_eq.mp y.1).symm
            refine h (as ++ [a]) H' (.ref a) ⟨List.prefix_append _ _, fun b o z => k3 b o (ee.keep b o (kl b o z)), hidD⟩ ⟨by simp [hlen2], ?_, fun i g b h1 h2 => ?_, fun b hb' => ?_, fun b hb' => ⟨by rw [hidD b hb']; exact (w.hid b hb').1, fun hm => ?_⟩⟩ ⟨a, by rw [← w.len]; simp, rfl⟩
            · rw [List.nodup_append]
              exact ⟨w.nd, by simp, fun b hb c hc => by
                have : c = a := by simpa using hc
                subst this
                exact fun z => hin (z ▸ hb)⟩
            · by_cases hi : i < as.length
              · rw [List.getElem?_append_left hi] at h2
                rw [List.getElem?_append_left (by rw [← hlen2]; exact hi)] at h1
                exact cells (as ++ [a]) _ (List.prefix_append _ _) k3 i g b h1 h2
              · have hi' : i = as.length := by
                  have := (List.getElem?_eq_some_iff.mp h2).1
                  simp at this
                  omega
                subst hi'
                have e3 : b = a := by simpa using h2.symm
                have e4 : g = go := by
                  rw [hlen2] at h1
                  simpa using h1.symm
                subst e3 e4
                exact flatGO_rel k3 hgo (wl'.cell j g b hg ha)
            · rcases List.mem_append.mp hb' with z | z
              · exact there b z
              · have : b = a := by simpa using z
                subst this
                exact Ha
            · rcases List.mem_append.mp hm with z | z
              · exact (w.hid b hb').2 z
              · exact hnhd (by have : b = a := by simpa using z
                               exact this ▸ hb')
section
variable {X : Cx} {W : WX} {np k : Nat} {f : Addr} {fd : FuncData} {ps : List Str} {fm : FD} {x : Str} {p pos : Pos} {e : Expr} {es : List Expr} {m : Ev → M (List Vl)}
/-- f(e, ..) -/
theorem q_call (F : FnG X.prog X.w X.K X.mg X.base (L2.CX X.prog X.w) k f fd ps (spD X.K np fm)) (hr : RoomG k X.A) (hg : Gl X x) (hm : X.mg x = some (.ref f)) (hk : PySem.W.keepIn X.K (.ref f) = true) (hb : Binds X.K fd ps []) (tk : Takes X W)
    (ha : QA X W (e :: es) m) (hdb : (x == ("__debug__" : Str)) = false := by decide) (he : starEach (e :: es) X.env = (false, eval e X.env) :: starEach es X.env := by rfl) (hpl : (backTo pos (starEach es X.env)).any (·.1) = false := by rfl) :
    QE X W (.Call (.Name x p) (e :: es) [] pos) (callF np fm m) :=
  (pe_callG F hr hg hm hk hb (fun σ => passAt tk σ) ha hdb he hpl).imp fun σ H Q ⟨hd, as, ρ, G, a, q⟩ =>
    ⟨hd, as, ρ, G, a, (ResA.bind q).mono fun vs H1 ⟨as1, G1, xs, e1, w1, r1, q1⟩ => callAt_ok w1 r1 q1⟩
end
end DL
end L2

/-! DL7: arithmetic and comparisons of values -/
namespace L2
namespace DL
open PySem PySem.Spec PyProof.Rows
variable [HasW]
theorem ResO.new {K : PySem.W.Frag} {hd as : List Addr} {G : Gh} {H : Hp} {d : D} {p : Addr} {o : HO} {Q : VK} (w : Wd K hd as G H) (h : ResO K hd as G H (some (.dat d, G)) Q) (hp : H p = none)
    (hr : ∀ F : Hp, (∀ a u, Fz hd as G H a = some u → F a = some u) → F p = some o → RelD K F d (.ref p)) : Q (.ref p) (upd H p o) := by
  obtain ⟨w2, e2, f2⟩ := w.new o hp
  exact h as _ (.ref p) e2 w2 (hr _ e2.keep f2)
/-! ### reading -/
/-- a list: one that never changes, or a cell's -/
def listD (x : Vl) (G : Gh) : Option (List D) := match x with
  | .dat (.lst l) => some l
  | .dat _ => none
  | .pr _ _ => none
  | .ref i => match G[i]? with
    | some (.lst l) => allDat l
    | _ => none
theorem listD_rel {K : PySem.W.Frag} {hd as : List Addr} {G : Gh} {H : Hp} {x : Vl} {v : V} {ds : List D} (w : Wd K hd as G H) (r : RelVl K as (Fz hd as G H) x v) (h : listD x G = some ds) : ∃ a xs, v = .ref a ∧ Rd H a (.lst xs) ∧ RelDs K (Fz hd as G H) ds xs := by
  cases x with
  | dat d =>
    cases d with
    | lst l =>
      cases h
      cases r with
      | lst h1 h2 => exact ⟨_, _, rfl, Fz.rd h1, h2⟩
    | _ => cases h
  | pr _ _ => cases h
  | ref i =>
    obtain ⟨a, ha, rfl⟩ := r
    simp only [listD] at h
    cases e : G[i]? with
    | none => rw [e] at h; cases h
    | some go =>
      rw [e] at h
      cases go with
      | lst l =>
        obtain ⟨xs, h1, h2⟩ := w.at e ha
        exact ⟨a, xs, rfl, .inl h1, allDat_rel h h2⟩
      | _ => cases h
def tupD (x : Vl) : Option (List D) := match x with
  | .dat (.tup l) => some l
  | _ => none
theorem tupD_rel {K : PySem.W.Frag} {hd as : List Addr} {G : Gh} {H : Hp} {x : Vl} {v : V} {ds : List D} (r : RelVl K as (Fz hd as G H) x v) (h : tupD x = some ds) : ∃ a xs, v = .ref a ∧ SqT K H a xs ∧ RelDs K (Fz hd as G H) ds xs := by
  cases x with
  | dat d =>
    cases d with
    | tup l =>
      cases h
      cases r with
      | tup h1 h2 => exact ⟨_, _, rfl, Fz.sqT h1, h2⟩
    | _ => cases h
  | ref i => cases h
  | pr _ _ => cases h
/-! ### + - * // % ** -/
def catL (a b : Option (List D)) (G : Gh) : Option (Vl × Gh) := match a, b with
  | some a, some b => if a.length + b.length ≤ sizeLine then some (.dat (.lst (a ++ b)), G) else none
  | _, _ => none
def addO : O2 := fun x y G => match x, y with
  | .dat (.int i), .dat (.int j) => some (.dat (.int (i + j)), G)
  | .dat (.str a), .dat (.str b) => if a.length + b.length ≤ sizeLine then some (.dat (.str (a ++ b)), G) else none
  | .dat (.tup a), .dat (.tup b) => if a.length + b.length ≤ sizeLine then some (.dat (.tup (a ++ b)), G) else none
  | x, y => catL (listD x G) (listD y G) G
def subO : O2 := fun x y G => match x, y with
  | .dat (.int i), .dat (.int j) => some (.dat (.int (i - j)), G)
  | _, _ => none
def bits (i : Int) : Nat := Builtin.Int.intBits i
def mulO : O2 := fun x y G => match x, y with
  | .dat (.int i), .dat (.int j) => if bits i ≤ 2 ^ 20 ∧ bits j ≤ 2 ^ 20 then some (.dat (.int (i * j)), G) else none
  | .dat (.lst l), .dat (.int k) => if -(2 ^ 63) ≤ k ∧ k < 2 ^ 63 ∧ l.length * k.toNat ≤ sizeLine then some (.dat (.lst (List.replicate k.toNat l).flatten), G) else none
  | _, _ => none
def fdivO : O2 := fun x y G => match x, y with
  | .dat (.int i), .dat (.int j) => if 0 < j ∧ j < 1073741824 then some (.dat (.int (i / j)), G) else none
  | _, _ => none
def modO : O2 := fun x y G => match x, y with
  | .dat (.int i), .dat (.int j) => if 0 < j then some (.dat (.int (i % j)), G) else none
  | _, _ => none
def powO : O2 := fun x y G => match x, y with
  | .dat (.int i), .dat (.int j) => if 0 ≤ j ∧ (bits i : Int) * j ≤ 2 ^ 27 then some (.dat (.int (i ^ j.toNat)), G) else none
  | _, _ => none
section
variable {X : Cx}
theorem ResO.dat {K : PySem.W.Frag} {hd as : List Addr} {G : Gh} {H : Hp} {d : D} {v : V} {Q : VK} (w : Wd K hd as G H) (r : RelD K (Fz hd as G H) d v) (h : ResO K hd as G H (some (.dat d, G)) Q) : Q v H := ResO.one (x := .dat d) w r h
/-- two lists joined -/
theorem cat_low {pins : List (Addr × Obj)} {s : Shared} {σ : St} {H : Hp} {x y : V} {v u : Value} {Q : VK} {hd as : List Addr} {G : Gh} {a b : Vl} (I : Inv X pins σ H s) (rx : RelV x v) (ry : RelV y u) (w : Wd X.K hd as G H) (ra : RelVl X.K as (Fz hd as G H) a x) (rb : RelVl X.K as (Fz hd as G H) b y)
    (h : ResO X.K hd as G H (catL (listD a G) (listD b G) G) Q) : wpAny (model X.prog X.w) X.A (binaryOp .Add v u) (EP X pins σ Q) X.xe s := by
  unfold catL at h
  cases ea : listD a G with
  | none => rw [ea] at h; exact h.elim
  | some ds =>
    cases eb : listD b G with
    | none => rw [ea, eb] at h; exact h.elim
    | some es =>
      rw [ea, eb] at h
      by_cases hz : ds.length + es.length ≤ sizeLine
      · simp only [if_pos hz] at h
        obtain ⟨l, xs, rfl, hl, hr⟩ := listD_rel w ra ea
        obtain ⟨l2, ys, rfl, hl2, hr2⟩ := listD_rel w rb eb
        cases rx
        cases ry
        obtain ⟨z1, its, n, rv, ho⟩ := (show ObjOk X.prog X.w H s.heap l (.lst xs) from hl.ok I.hok)
        obtain ⟨z2, its2, n2, rv2, ho2⟩ := (show ObjOk X.prog X.w H s.heap l2 (.lst ys) from hl2.ok I.hok)
        have l1 := rv.length
        have l2' := rv2.length
        have l3 := hr.length
        have l4 := hr2.length
        refine PySem.P.add_list ho ho2 ?_ (by rw [List.size_toArray, List.size_toArray]; omega)
        have ea' : its.toArray ++ its2.toArray = (its ++ its2).toArray := by simp
        rw [ea']
        refine ⟨.ref _, _, I.lnew (t' := s.toks) (rv.append rv2) (by rw [List.length_append]; omega), rfl, ?_⟩
        exact ResO.new w h I.fresh fun F k f => .lst (.inl f) (RelDs.mono k (hr.append hr2))
      · simp only [if_neg hz] at h
        exact h.elim
theorem ol_add : OpL X (binaryOp .Add) addO := by
  intro pins s σ H x y v u Q hd as G a b I rx ry w ra rb h
  have lists : ResO X.K hd as G H (catL (listD a G) (listD b G) G) Q → wpAny (model X.prog X.w) X.A (binaryOp .Add v u) (EP X pins σ Q) X.xe s := fun h => cat_low I rx ry w ra rb h
  unfold addO at h
  split at h
  · cases ra; cases rb
    exact op_add pins s σ H _ _ v u Q I rx ry ⟨_, _, rfl, rfl, ResO.dat w (RelD.int _) h⟩
  · cases ra; cases rb
    split at h
    · rename_i hz
      exact op_add_str pins s σ H _ _ v u Q I rx ry ⟨_, _, rfl, rfl, hz, ResO.dat w (RelD.str _) h⟩
    · exact h.elim
  · rename_i l1 l2
    split at h
    · rename_i hz
      cases ra with
      | tup h1 h2 =>
        cases rb with
        | tup h3 h4 =>
          rename_i a1 xs1 a2 xs2
          have e1 := h2.length
          have e2 := h4.length
          refine op_catA pins s σ H _ _ v u Q I rx ry ⟨_, _, _, _, rfl, rfl, Fz.sqT h1, Fz.sqT h3, by omega, fun z => ?_, fun _ z => ?_, fun _ _ p hp => ?_⟩
          · subst z
            have : l1 = [] := List.eq_nil_of_length_eq_zero e1
            subst this
            exact ResO.dat (d := .tup l2) w (.tup h3 h4) (by simpa using h)
          · subst z
            have : l2 = [] := List.eq_nil_of_length_eq_zero e2
            subst this
            exact ResO.dat (d := .tup l1) w (.tup h1 h2) (by simpa using h)
          · exact ResO.new w h hp fun F k f => .tup (SqT.of f) (RelDs.mono k (h2.append h4))
    · exact h.elim
  · exact lists h
theorem ol_sub : OpL X (binaryOp .Sub) subO := by
  intro pins s σ H x y v u Q hd as G a b I rx ry w ra rb h
  unfold subO at h
  split at h
  · cases ra; cases rb
    exact op_sub pins s σ H _ _ v u Q I rx ry ⟨_, _, rfl, rfl, ResO.dat w (RelD.int _) h⟩
  · exact h.elim
/-- a list times an int, the list a known one -/
theorem rep_frz {pins : List (Addr × Obj)} {s : Shared} {σ : St} {H : Hp} {l : Addr} {k : Int} {xs : List V} {o : Obj} {v u : Value} {Q : VK} (I : Inv X pins σ H s) (rx : RelV (.ref l) v) (ry : RelV (.int k) u) (hH : H l = some (.frz o (.lst xs))) (h1 : -(2 ^ 63) ≤ k) (h2 : k < 2 ^ 63) (hz : xs.length * k.toNat ≤ sizeLine)
    (q : ∀ p, H p = none → Q (.ref p) (upd H p (.lst (List.replicate k.toNat xs).flatten))) : wpAny (model X.prog X.w) X.A (binaryOp .Mult v u) (EP X pins σ Q) X.xe s := by
  cases rx
  obtain ⟨t, rfl⟩ := ry
  obtain ⟨_, z, its, n, r, e⟩ := (show ObjOk X.prog X.w H s.heap l (.frz o (.lst xs)) from I.hok l _ hH)
  have hl := r.length
  have hlen : its.toArray.size * k.toNat ≤ sizeLine := by rw [List.size_toArray, ← hl]; exact hz
  have hcap : ¬ its.toArray.size * k.toNat > (2 ^ 63 - 1) / 8 := by
    have : (sizeLine : Nat) ≤ (2 ^ 63 - 1) / 8 := by decide
    omega
  have hfit : ¬ (!Builtin.List.listFitsIndex k) = true := by
    rw [fitsIndex_both h1 h2]
    exact Bool.false_ne_true
  have hlong : ¬ Builtin.List.listTooLong (its.toArray.size * k.toNat) = true := by
    rw [notLongL hlen]
    exact Bool.false_ne_true
  have hnew : List.foldl (fun x1 x2 => x1 ++ x2) #[] (List.replicate (if its.toArray.isEmpty = true then 0 else k.toNat) its.toArray) = (List.replicate k.toNat its).flatten.toArray := by
    have f0 : ∀ m : Nat, List.foldl (fun x1 x2 => x1 ++ x2) #[] (List.replicate m its.toArray) = (List.replicate m its).flatten.toArray := fun m => by
      have := foldl_rep its m []
      rw [List.nil_append] at this
      exact this
    rw [f0]
    cases its with
    | nil => simp
    | cons a r' => rw [if_neg (by simp)]
  refine wpAny_binaryOp_repeat_ref (T := "list") (U := "int") (by decide) ⟨_, e, rfl⟩ (fun s' => typeIs_int s' k t) noFill_list_mul F.fills_int_mul F.slot_int_rmul repeat_list F.slot_int_index.lookup
    (call_meets F.slot_int_rmul (typeIs_int s k t) F.entry_int_rmul (F.args_int_rmul_2 _ _) (int___rmul___int_list k t l its.toArray n)
      ⟨e, rfl, ⟨_, e, rfl⟩, call_meets F.slot_list_mul ⟨_, e, rfl⟩ F.entry_list_mul (F.args_list_mul_2 _ _) (AutoListH.list___mul___list_int_3 l its.toArray n k t hfit hcap hlong) ⟨e, ?_⟩⟩)
  rw [hnew]
  exact ⟨.ref _, _, I.lnew (t' := s.toks) (r.rep k.toNat) (by rw [PyProof.Rows.lm_len_rep_flat, Nat.mul_comm]; exact hz), rfl, q _ I.fresh⟩
theorem ol_mul : OpL X (binaryOp .Mult) mulO := by
  intro pins s σ H x y v u Q hd as G a b I rx ry w ra rb h
  unfold mulO at h
  split at h
  · cases ra; cases rb
    split at h
    · rename_i hz
      obtain ⟨t, rfl⟩ := rx
      obtain ⟨t', rfl⟩ := ry
      exact mul_int ⟨.int _, H, I.tok _, ⟨_, rfl⟩, ResO.dat w (RelD.int _) h⟩ (IntMulOk.of_bits hz.1 hz.2)
    · exact h.elim
  · rename_i l k
    cases rb
    split at h
    · rename_i hz
      cases ra with
      | lst h1 h2 =>
        rename_i a1 xs1
        have e1 := h2.length
        have key : ∀ p, H p = none → Q (.ref p) (upd H p (.lst (List.replicate k.toNat xs1).flatten)) := fun p hp => ResO.new w h hp fun F k' f => .lst (.inl f) (by
          have hm := RelDs.mono k' h2
          have : ∀ n : Nat, RelDs X.K F (List.replicate n l).flatten (List.replicate n xs1).flatten := fun n => by
            induction n with
            | zero => exact .nil
            | succ n ih => simp only [List.replicate_succ, List.flatten_cons]; exact hm.append ih
          exact this _)
        rcases Fz.rd h1 with hl | ⟨o, hl⟩
        · exact op_rep pins s σ H _ _ v u Q I rx ry ⟨_, _, _, rfl, rfl, hl, hz.1, hz.2.1, by rw [← e1]; exact hz.2.2, key⟩
        · exact rep_frz I rx ry hl hz.1 hz.2.1 (by rw [← e1]; exact hz.2.2) key
    · exact h.elim
  · exact h.elim
theorem ol_fdiv : OpL X (binaryOp .FloorDiv) fdivO := by
  intro pins s σ H x y v u Q hd as G a b I rx ry w ra rb h
  unfold fdivO at h
  split at h
  · cases ra; cases rb
    split at h
    · rename_i hz
      exact op_fdiv pins s σ H _ _ v u Q I rx ry ⟨_, _, rfl, rfl, hz, ResO.dat w (RelD.int _) h⟩
    · exact h.elim
  · exact h.elim
theorem ol_mod : OpL X (binaryOp .Mod) modO := by
  intro pins s σ H x y v u Q hd as G a b I rx ry w ra rb h
  unfold modO at h
  split at h
  · cases ra; cases rb
    split at h
    · rename_i hz
      exact op_mod pins s σ H _ _ v u Q I rx ry ⟨_, _, rfl, rfl, hz, ResO.dat w (RelD.int _) h⟩
    · exact h.elim
  · exact h.elim
theorem ol_pow : OpL X (binaryOp .Pow) powO := by
  intro pins s σ H x y v u Q hd as G a b I rx ry w ra rb h
  unfold powO at h
  split at h
  · cases ra; cases rb
    split at h
    · rename_i hz
      obtain ⟨t, rfl⟩ := rx
      obtain ⟨t', rfl⟩ := ry
      exact pow_int hz.1 hz.2 ⟨.int _, H, I.tok _, ⟨_, rfl⟩, ResO.dat w (RelD.int _) h⟩
    · exact h.elim
  · exact h.elim
def negO : O1 := fun x G => match x with
  | .dat (.int i) => some (.dat (.int (-i)), G)
  | _ => none
theorem ul_neg : UnL X (unaryOp .USub) negO := by
  intro pins s σ H x v Q hd as G a I rx w ra h
  unfold negO at h
  split at h
  · cases ra
    exact un_neg pins s σ H _ v Q I rx ⟨_, rfl, ResO.dat w (RelD.int _) h⟩
  · exact h.elim
end
end DL
end L2

/-! DL8: comparisons, in, is -/
namespace L2
namespace DL
open PySem PySem.Spec PyProof.Rows
variable [HasW]
/-! ### data as the library's data -/
mutual
def py : D → Option PyData
  | .non => some .none
  | .bl b => some (.bool b)
  | .int i => some (.int i)
  | .str x => some (.str x)
  | .tup l => (pys l).map .tuple
  | .lst l => (pys l).map .list
  | .dct _ => none
  | .dcN _ => none
  | .set _ => none
  | .obj _ _ => none
  | .exc _ _ => none
def pys : List D → Option (List PyData)
  | [] => some []
  | d :: r => match py d with
    | some p => (pys r).map (p :: ·)
    | none => none
end
theorem pys_cons {d : D} {r : List D} {ps : List PyData} (h : pys (d :: r) = some ps) : ∃ p qs, ps = p :: qs ∧ py d = some p ∧ pys r = some qs := by
  unfold pys at h
  cases e : py d with
  | none => rw [e] at h; cases h
  | some p =>
    rw [e] at h
    obtain ⟨qs, h1, rfl⟩ := Option.map_eq_some_iff.mp h
    exact ⟨p, qs, rfl, rfl, h1⟩
mutual
theorem py_dp {K : PySem.W.Frag} {H : Hp} : ∀ {d : D} {v : V} {p : PyData}, RelD K H d v → py d = some p → Dp K H v p
  | .non, _, _, r, h => by cases r; unfold py at h; cases h; exact .non
  | .bl b, _, _, r, h => by cases r; unfold py at h; cases h; exact .bl b
  | .int i, _, _, r, h => by cases r; unfold py at h; cases h; exact .int i
  | .str x, _, _, r, h => by cases r; unfold py at h; cases h; exact .str x
  | .tup l, _, _, r, h => by
    unfold py at h
    obtain ⟨ps, h1, rfl⟩ := Option.map_eq_some_iff.mp h
    cases r with
    | tup q1 q2 => exact .tup q1 (pys_dp q2 h1)
  | .lst l, _, _, r, h => by
    unfold py at h
    obtain ⟨ps, h1, rfl⟩ := Option.map_eq_some_iff.mp h
    cases r with
    | lst q1 q2 => exact .lst (.inl q1) (pys_dp q2 h1)
  | .dct _, _, _, _, h => by unfold py at h; cases h
  | .dcN _, _, _, _, h => by unfold py at h; cases h
  | .set _, _, _, _, h => by unfold py at h; cases h
  | .obj _ _, _, _, _, h => by unfold py at h; cases h
  | .exc _ _, _, _, _, h => by unfold py at h; cases h
theorem pys_dp {K : PySem.W.Frag} {H : Hp} : ∀ {ds : List D} {vs : List V} {ps : List PyData}, RelDs K H ds vs → pys ds = some ps → DpAll K H vs ps
  | [], _, _, r, h => by cases r; unfold pys at h; cases h; exact .nil
  | d :: ds, _, _, r, h => by
    obtain ⟨p, qs, rfl, h1, h2⟩ := pys_cons h
    cases r with
    | cons r1 r2 => exact .cons (py_dp r1 h1) (pys_dp r2 h2)
end
/-- the data that a value is, cells read -/
def look (x : Vl) (G : Gh) : Option D := match x with
  | .dat d => some d
  | .pr _ _ => none
  | .ref i => match G[i]? with
    | some (.lst l) => (allDat l).map .lst
    | some (.dct l) => (allDat (l.map (·.2))).map fun ds => .dct ((l.map (·.1)).zip ds)
    | _ => none
theorem look_rel {K : PySem.W.Frag} {hd as : List Addr} {G : Gh} {H : Hp} {x : Vl} {v : V} {d : D} (w : Wd K hd as G H) (r : RelVl K as (Fz hd as G H) x v) (h : look x G = some d) : RelD K H d v := by
  cases x with
  | dat e => cases h; exact RelD.mono (fun _ _ => Fz.of) r
  | pr _ _ => cases h
  | ref i =>
    obtain ⟨a, ha, rfl⟩ := r
    simp only [look] at h
    cases e : G[i]? with
    | none => rw [e] at h; cases h
    | some go =>
      rw [e] at h
      cases go with
      | lst l =>
        obtain ⟨ds, h1, rfl⟩ := Option.map_eq_some_iff.mp h
        obtain ⟨xs, h2, h3⟩ := w.at e ha
        exact .lst (.inl h2) (RelDs.mono (fun _ _ => Fz.of) (allDat_rel h1 h3))
      | dct l =>
        obtain ⟨ds, h1, rfl⟩ := Option.map_eq_some_iff.mp h
        obtain ⟨kvs, h2, h3, h4⟩ := w.at e ha
        have rd := allDat_rel h1 h4
        have hl := rd.length
        have hz : (l.map (·.1)).length = ds.length := by
          have := congrArg List.length h3
          simp only [List.length_map] at this hl ⊢
          omega
        refine .dct (.inl h2) ?_ ?_
        · rw [zip_fst _ _ hz]; exact h3
        · rw [zip_snd _ _ hz]; exact RelDs.mono (fun _ _ => Fz.of) rd
      | _ => cases h
def leafV : D → Option V
  | .non => some .non
  | .bl b => some (.bl b)
  | .int i => some (.int i)
  | .str x => some (.str x)
  | _ => none
theorem leafV_rel {K : PySem.W.Frag} {H : Hp} {d : D} {v x : V} (r : RelD K H d v) (h : leafV d = some x) : v = x ∧ flatV x = true := by
  cases d <;> first | (cases h; cases r; exact ⟨rfl, rfl⟩) | cases h
/-! ### == != -/
def okPy (p : PyData) : Bool := SeqAt.shaped p
def pyEq (d e : D) : Option Bool := match py d, py e with
  | some p, some q => if okPy p = true ∧ okPy q = true then some (PyData.eqv p q) else none
  | _, _ => none
def eqD (d e : D) : Option Bool := match leafV d, leafV e with
  | some x, some y => if scal x y = true then some (decide (x = y)) else pyEq d e
  | _, _ => pyEq d e
def eqO : O2 := fun x y G => match look x G, look y G with
  | some d, some e => (eqD d e).map fun b => (.dat (.bl b), G)
  | _, _ => none
def neO : O2 := fun x y G => match look x G, look y G with
  | some d, some e => (eqD d e).map fun b => (.dat (.bl (!b)), G)
  | _, _ => none
section
variable {X : Cx}
theorem eq_low {pins : List (Addr × Obj)} {s : Shared} {σ : St} {H : Hp} {x y : V} {v u : Value} {Q : VK} {d e : D} {b : Bool} (hu : X.A.units + 64 < cLine) (I : Inv X pins σ H s) (rx : RelV x v) (ry : RelV y u) (rd : RelD X.K H d x) (re : RelD X.K H e y) (h : eqD d e = some b) (q : Q (.bl b) H) :
    wpAny (model X.prog X.w) X.A (compareOp .Eq v u) (EP X pins σ Q) X.xe s := by
  have viaPy : pyEq d e = some b → wpAny (model X.prog X.w) X.A (compareOp .Eq v u) (EP X pins σ Q) X.xe s := fun h => by
    unfold pyEq at h
    cases e1 : py d with
    | none => rw [e1] at h; cases h
    | some p =>
      cases e2 : py e with
      | none => rw [e1, e2] at h; cases h
      | some p2 =>
        rw [e1, e2] at h
        by_cases hz : okPy p = true ∧ okPy p2 = true
        · simp only [if_pos hz] at h
          cases h
          exact op_eqD hu pins s σ H x y v u Q I rx ry ⟨p, p2, py_dp rd e1, py_dp re e2, hz.1, hz.2, q⟩
        · simp only [if_neg hz] at h
          cases h
  unfold eqD at h
  cases e1 : leafV d with
  | none => rw [e1] at h; exact viaPy h
  | some x1 =>
    cases e2 : leafV e with
    | none => rw [e1, e2] at h; exact viaPy h
    | some y1 =>
      rw [e1, e2] at h
      by_cases hs : scal x1 y1 = true
      · simp only [if_pos hs] at h
        cases h
        obtain ⟨rfl, _⟩ := leafV_rel rd e1
        obtain ⟨rfl, _⟩ := leafV_rel re e2
        exact op_eq pins s σ H _ _ v u Q I rx ry ⟨hs, q⟩
      · simp only [if_neg hs] at h
        exact viaPy h
theorem ne_low {pins : List (Addr × Obj)} {s : Shared} {σ : St} {H : Hp} {x y : V} {v u : Value} {Q : VK} {d e : D} {b : Bool} (hu : X.A.units + 64 < cLine) (I : Inv X pins σ H s) (rx : RelV x v) (ry : RelV y u) (rd : RelD X.K H d x) (re : RelD X.K H e y) (h : eqD d e = some b) (q : Q (.bl (!b)) H) :
    wpAny (model X.prog X.w) X.A (compareOp .NotEq v u) (EP X pins σ Q) X.xe s := by
  have viaPy : pyEq d e = some b → wpAny (model X.prog X.w) X.A (compareOp .NotEq v u) (EP X pins σ Q) X.xe s := fun h => by
    unfold pyEq at h
    cases e1 : py d with
    | none => rw [e1] at h; cases h
    | some p =>
      cases e2 : py e with
      | none => rw [e1, e2] at h; cases h
      | some p2 =>
        rw [e1, e2] at h
        by_cases hz : okPy p = true ∧ okPy p2 = true
        · simp only [if_pos hz] at h
          cases h
          exact op_neD hu pins s σ H x y v u Q I rx ry ⟨p, p2, py_dp rd e1, py_dp re e2, hz.1, hz.2, q⟩
        · simp only [if_neg hz] at h
          cases h
  unfold eqD at h
  cases e1 : leafV d with
  | none => rw [e1] at h; exact viaPy h
  | some x1 =>
    cases e2 : leafV e with
    | none => rw [e1, e2] at h; exact viaPy h
    | some y1 =>
      rw [e1, e2] at h
      by_cases hs : scal x1 y1 = true
      · simp only [if_pos hs] at h
        cases h
        obtain ⟨rfl, _⟩ := leafV_rel rd e1
        obtain ⟨rfl, _⟩ := leafV_rel re e2
        exact op_ne pins s σ H _ _ v u Q I rx ry ⟨hs, q⟩
      · simp only [if_neg hs] at h
        exact viaPy h
theorem ol_eq (hu : X.A.units + 64 < cLine) : OpL X (compareOp .Eq) eqO := by
  intro pins s σ H x y v u Q hd as G a b I rx ry w ra rb h
  unfold eqO at h
  cases e1 : look a G with
  | none => rw [e1] at h; exact h.elim
  | some d =>
    cases e2 : look b G with
    | none => rw [e1, e2] at h; exact h.elim
    | some e =>
      rw [e1, e2] at h
      cases e3 : eqD d e with
      | none => simp only [e3] at h; exact h.elim
      | some k =>
        simp only [e3] at h
        exact eq_low hu I rx ry (look_rel w ra e1) (look_rel w rb e2) e3 (ResO.dat w (RelD.bl k) h)
theorem ol_ne (hu : X.A.units + 64 < cLine) : OpL X (compareOp .NotEq) neO := by
  intro pins s σ H x y v u Q hd as G a b I rx ry w ra rb h
  unfold neO at h
  cases e1 : look a G with
  | none => rw [e1] at h; exact h.elim
  | some d =>
    cases e2 : look b G with
    | none => rw [e1, e2] at h; exact h.elim
    | some e =>
      rw [e1, e2] at h
      cases e3 : eqD d e with
      | none => simp only [e3] at h; exact h.elim
      | some k =>
        simp only [e3] at h
        exact ne_low hu I rx ry (look_rel w ra e1) (look_rel w rb e2) e3 (ResO.dat w (RelD.bl (!k)) h)
/-! ### < <= > >= -/
def ltD (d e : D) : Option Bool := match d, e with
  | .int i, .int j => some (decide (i < j))
  | .str a, .str b => some (decide (a.cps.toList < b.cps.toList))
  | .tup a, .tup b => (match pys a, pys b with
    | some p, some q => if W.alike (.tuple p) (.tuple q) = true ∧ (PyData.tuple p).depth ≤ 64 then some (W.dataLt (.tuple p) (.tuple q)) else none
    | _, _ => none)
  | _, _ => none
def ltO : O2 := fun x y G => match x, y with
  | .dat d, .dat e => (ltD d e).map fun b => (.dat (.bl b), G)
  | _, _ => none
theorem ol_lt (hu : X.A.units + 64 < cLine) : OpL X (compareOp .Lt) ltO := by
  intro pins s σ H x y v u Q hd as G a b I rx ry w ra rb h
  unfold ltO at h
  split at h
  · rename_i d e
    have ra' : RelD X.K (Fz hd as G H) d x := ra
    have rb' : RelD X.K (Fz hd as G H) e y := rb
    unfold ltD at h
    split at h
    · cases ra'; cases rb'
      exact op_lt pins s σ H _ _ v u Q I rx ry ⟨_, _, rfl, rfl, ResO.dat w (RelD.bl _) h⟩
    · cases ra'; cases rb'
      exact op_lt_str pins s σ H _ _ v u Q I rx ry ⟨_, _, rfl, rfl, ResO.dat w (RelD.bl _) h⟩
    · rename_i l1 l2
      cases e1 : pys l1 with
      | none => simp only [e1] at h; exact h.elim
      | some p =>
        cases e2 : pys l2 with
        | none => simp only [e1, e2] at h; exact h.elim
        | some q =>
          simp only [e1, e2] at h
          by_cases hz : W.alike (.tuple p) (.tuple q) = true ∧ (PyData.tuple p).depth ≤ 64
          · simp only [if_pos hz] at h
            obtain ⟨bs, r1⟩ := Dp.reads I (.tuple p) x v (py_dp (d := .tup l1) (RelD.mono (fun _ _ => Fz.of) ra') (by unfold py; rw [e1]; rfl)) rx
            obtain ⟨cs, r2⟩ := Dp.reads I (.tuple q) y u (py_dp (d := .tup l2) (RelD.mono (fun _ _ => Fz.of) rb') (by unfold py; rw [e2]; rfl)) ry
            have hm : min (PyData.tuple p).depth (PyData.tuple q).depth ≤ 64 := Nat.le_trans (Nat.min_le_left _ _) hz.2
            exact W.rcLt_alike _ _ X.A s v u bs cs r1 r2 hz.1 (fun z => by cases z) (by omega) _ _ _ _ ⟨.bl _, H, I, rfl, ResO.dat w (RelD.bl _) h⟩
          · simp only [if_neg hz] at h
            exact h.elim
    · exact h.elim
  · exact h.elim
def cmpI (p : Int → Int → Bool) : O2 := fun x y G => match x, y with
  | .dat (.int i), .dat (.int j) => some (.dat (.bl (p i j)), G)
  | _, _ => none
def leO : O2 := cmpI fun i j => decide (i ≤ j)
def gtO : O2 := cmpI fun i j => decide (j < i)
def geO : O2 := cmpI fun i j => decide (j ≤ i)
theorem ol_le : OpL X (compareOp .LtE) leO := by
  intro pins s σ H x y v u Q hd as G a b I rx ry w ra rb h
  unfold leO cmpI at h
  split at h
  · cases ra; cases rb
    exact op_le pins s σ H _ _ v u Q I rx ry ⟨_, _, rfl, rfl, ResO.dat w (RelD.bl _) h⟩
  · exact h.elim
theorem ol_gt : OpL X (compareOp .Gt) gtO := by
  intro pins s σ H x y v u Q hd as G a b I rx ry w ra rb h
  unfold gtO cmpI at h
  split at h
  · cases ra; cases rb
    exact op_gt pins s σ H _ _ v u Q I rx ry ⟨_, _, rfl, rfl, ResO.dat w (RelD.bl _) h⟩
  · exact h.elim
theorem ol_ge : OpL X (compareOp .GtE) geO := by
  intro pins s σ H x y v u Q hd as G a b I rx ry w ra rb h
  unfold geO cmpI at h
  split at h
  · cases ra; cases rb
    exact op_ge pins s σ H _ _ v u Q I rx ry ⟨_, _, rfl, rfl, ResO.dat w (RelD.bl _) h⟩
  · exact h.elim
/-! ### is None -/
def isNone : Vl → Bool
  | .dat .non => true
  | _ => false
def isO : O2 := fun x y G => match y with
  | .dat .non => some (.dat (.bl (isNone x)), G)
  | _ => none
def isNotO : O2 := fun x y G => match y with
  | .dat .non => some (.dat (.bl (!isNone x)), G)
  | _ => none
theorem isNone_rel {K : PySem.W.Frag} {as : List Addr} {F : Hp} {x : Vl} {v : V} (r : RelVl K as F x v) : decide (v = .non) = isNone x := by
  cases x with
  | dat d => cases d <;> cases r <;> simp [isNone]
  | ref i => obtain ⟨a, _, rfl⟩ := r; simp [isNone]
  | pr _ _ => obtain ⟨_, _, _, rfl, _⟩ := r; simp [isNone]
theorem ol_is : OpL X (compareOp .Is) isO := by
  intro pins s σ H x y v u Q hd as G a b I rx ry w ra rb h
  unfold isO at h
  split at h
  · cases rb
    exact op_isN pins s σ H _ _ v u Q I rx ry ⟨rfl, ResO.dat w (by rw [isNone_rel ra]; exact RelD.bl _) h⟩
  · exact h.elim
theorem ol_isNot : OpL X (compareOp .IsNot) isNotO := by
  intro pins s σ H x y v u Q hd as G a b I rx ry w ra rb h
  unfold isNotO at h
  split at h
  · cases rb
    exact op_notN pins s σ H _ _ v u Q I rx ry ⟨rfl, ResO.dat w (by rw [isNone_rel ra]; exact RelD.bl _) h⟩
  · exact h.elim
/-! ### in, not in -/
def keyOf : D → Option Key
  | .int i => some (.inl i)
  | .str x => some (.inr x)
  | _ => none
def keyIsD : Key → D → Bool
  | .inl i, .int j => decide (i = j)
  | .inr a, .str b => decide (a = b)
  | _, _ => false
theorem keyIsD_eq (k k' : Key) : keyIsD k (keyD k') = decide (k' = k) := by
  cases k <;> cases k' <;> simp [keyIsD, keyD, eq_comm]
def lookK {α : Type} (l : List (D × α)) (k : Key) : Option α := (l.find? fun p => keyIsD k p.1).map (·.2)
def RelOpt {α : Type} (P : α → V → Prop) : Option α → Option V → Prop
  | some x, some v => P x v
  | none, none => True
  | _, _ => False
theorem RelOpt.isSome {α : Type} {P : α → V → Prop} {o : Option α} {o' : Option V} (h : RelOpt P o o') : o'.isSome = o.isSome := by
  cases o <;> cases o' <;> first | rfl | exact h.elim
theorem lookK_rel {α : Type} {P : α → V → Prop} : ∀ {l : List (D × α)} {kvs : List (Key × V)} (k : Key), l.map (·.1) = kvs.map (fun p => keyD p.1) → Paired P (l.map (·.2)) (kvs.map (·.2)) → RelOpt P (lookK l k) (valV kvs k)
  | [], [], k, _, _ => trivial
  | [], _ :: _, _, h, _ => by simp at h
  | _ :: _, [], _, h, _ => by simp at h
  | (d, x) :: l, (k0, v) :: kvs, k, h, r => by
    simp only [List.map_cons, List.cons.injEq] at h r
    cases r with
    | cons r1 r2 =>
      have ih := lookK_rel (l := l) (kvs := kvs) k h.2 r2
      have hd : d = keyD k0 := h.1
      subst hd
      by_cases e : k0 = k
      · subst e
        have e1 : lookK ((keyD k0, x) :: l) k0 = some x := by simp [lookK, List.find?_cons, keyIsD_eq]
        have e2 : valV ((k0, v) :: kvs) k0 = some v := by simp [valV]
        rw [e1, e2]
        exact r1
      · have e1 : lookK ((keyD k0, x) :: l) k = lookK l k := by simp [lookK, List.find?_cons, keyIsD_eq, e]
        have e2 : valV ((k0, v) :: kvs) k = valV kvs k := by simp [valV, List.find?_cons, e]
        rw [e1, e2]
        exact ih
theorem paired_of_ds {K : PySem.W.Frag} {F : Hp} : ∀ {ds : List D} {vs : List V}, RelDs K F ds vs → Paired (RelD K F) ds vs
  | _, _, .nil => .nil
  | _, _, .cons h r => .cons h (paired_of_ds r)
theorem keyOf_rel {K : PySem.W.Frag} {F : Hp} {d : D} {v : V} {k : Key} (r : RelD K F d v) (h : keyOf d = some k) : v = kV k := by
  cases d <;> first | (cases h; cases r; rfl) | cases h
def anyEqv (d : D) (l : List D) : Option Bool := match leafV d, mapO leafV l with
  | some x, some xs => some (inV x xs)
  | _, _ => match py d, pys l with
    | some p, some ps => if okPy p = true ∧ okPy (.list ps) = true then some (ps.any fun z => PyData.eqv z p) else none
    | _, _ => none
/-- a in z -/
def inS (z a : Str) : Bool := match a.cps.toList with
  | [c] => z.cps.toList.any fun x => Nat.beq x c
  | _ => !(Builtin.Str.occurrences z a 0 z.length 1).isEmpty
theorem inS_eq (z a : Str) : inS z a = !(Builtin.Str.occurrences z a 0 z.length 1).isEmpty := by
  unfold inS
  split
  · rename_i c e
    have ea : a = ⟨#[c]⟩ := by
      cases a with
      | mk t => cases t with | mk l => simp only at e; subst e; rfl
    rw [ea, StrLaws.found_one]
    rw [Bool.eq_iff_iff, List.any_eq_true, decide_eq_true_eq]
    constructor
    · rintro ⟨x, hx, h⟩
      rw [← Nat.eq_of_beq_eq_true h]
      exact hx
    · intro h
      exact ⟨c, h, Nat.beq_refl c⟩
  · rfl
def inD (d : D) (e : D) : Option Bool := match e with
  | .str z => (match d with
    | .str a => some (inS z a)
    | _ => none)
  | .lst l => anyEqv d l
  | .tup l => anyEqv d l
  | .dct l => (keyOf d).map fun k => (lookK l k).isSome
  | _ => none
def inO : O2 := fun x y G => match x, look y G with
  | .dat d, some e => (inD d e).map fun b => (.dat (.bl b), G)
  | _, _ => none
def notInO : O2 := fun x y G => match x, look y G with
  | .dat d, some e => (inD d e).map fun b => (.dat (.bl (!b)), G)
  | _, _ => none
theorem leafs_rel {K : PySem.W.Frag} {H : Hp} : ∀ {ds : List D} {vs xs : List V}, RelDs K H ds vs → mapO leafV ds = some xs → vs = xs ∧ xs.all flatV = true
  | [], _, _, r, h => by cases r; cases h; exact ⟨rfl, rfl⟩
  | d :: ds, _, _, r, h => by
    obtain ⟨y, ys, rfl, h1, h2⟩ := mapO_cons h
    cases r with
    | cons r1 r2 =>
      obtain ⟨rfl, f1⟩ := leafV_rel r1 h1
      obtain ⟨rfl, f2⟩ := leafs_rel r2 h2
      exact ⟨rfl, by simp [f1, f2]⟩
/-- x in a list or tuple of data -/
theorem any_low (neg : Bool) {pins : List (Addr × Obj)} {s : Shared} {σ : St} {H : Hp} {x : V} {a : Addr} {xs : List V} {v : Value} {Q : VK} {d : D} {l : List D} {b : Bool} (hu : X.A.units + 65 < cLine) (I : Inv X pins σ H s) (rx : RelV x v) (rd : RelD X.K H d x) (rl : RelDs X.K H l xs) (sq : SqL X.K H a xs ∨ SqT X.K H a xs) (h : anyEqv d l = some b) (q : Q (.bl (if neg then !b else b)) H) :
    wpAny (model X.prog X.w) X.A (compareOp (if neg then .NotIn else .In) v (.ref a)) (EP X pins σ Q) X.xe s := by
  unfold anyEqv at h
  have viaPy : (match py d, pys l with
    | some p, some ps => if okPy p = true ∧ okPy (.list ps) = true then some (ps.any fun z => PyData.eqv z p) else none
    | _, _ => none) = some b → wpAny (model X.prog X.w) X.A (compareOp (if neg then .NotIn else .In) v (.ref a)) (EP X pins σ Q) X.xe s := fun h => by
    cases e1 : py d with
    | none => simp only [e1] at h; cases h
    | some p =>
      cases e2 : pys l with
      | none => simp only [e1, e2] at h; cases h
      | some ps =>
        simp only [e1, e2] at h
        by_cases hz : okPy p = true ∧ okPy (.list ps) = true
        · simp only [if_pos hz] at h
          cases h
          obtain ⟨as, r1⟩ := Dp.reads I p x v (py_dp rd e1) rx
          have c1 := SeqAt.canLay_of_shaped hz.1
          have c2 : PyData.canLayAll0 ps = true := SeqAt.canLay_of_shaped (d := .list ps) hz.2
          have hroom := room_in_shaped (xs := ps) hz.1 hu
          rcases sq with sq | sq
          · obtain ⟨bs, r2⟩ := Dp.reads I (.list ps) (.ref a) (.ref a) (.lst sq (pys_dp rl e2)) rfl
            cases neg with
            | false => exact SeqAt.in_list_reads r2 r1 c2 c1 hroom ⟨.bl _, H, I, rfl, q⟩
            | true => exact SeqAt.notIn_list_reads r2 r1 c2 c1 hroom ⟨.bl _, H, I, rfl, q⟩
          · obtain ⟨bs, r2⟩ := Dp.reads I (.tuple ps) (.ref a) (.ref a) (.tup sq (pys_dp rl e2)) rfl
            cases neg with
            | false => exact SeqAt.in_tuple_reads r2 r1 c2 c1 hroom ⟨.bl _, H, I, rfl, q⟩
            | true => exact SeqAt.notIn_tuple_reads r2 r1 c2 c1 hroom ⟨.bl _, H, I, rfl, q⟩
        · simp only [if_neg hz] at h
          cases h
  cases e1 : leafV d with
  | none => simp only [e1] at h; exact viaPy h
  | some x1 =>
    cases e2 : mapO leafV l with
    | none => simp only [e1, e2] at h; exact viaPy h
    | some xs1 =>
      simp only [e1, e2] at h
      cases h
      obtain ⟨rfl, f1⟩ := leafV_rel rd e1
      obtain ⟨rfl, f2⟩ := leafs_rel rl e2
      cases neg with
      | false => exact op_in_seq pins s σ H _ (.ref a) v (.ref a) Q I rx rfl ⟨a, _, rfl, sq, f1, f2, q⟩
      | true => exact op_notIn_seq pins s σ H _ (.ref a) v (.ref a) Q I rx rfl ⟨a, _, rfl, sq, f1, f2, q⟩
theorem in_low (neg : Bool) {pins : List (Addr × Obj)} {s : Shared} {σ : St} {H : Hp} {x y : V} {v u : Value} {Q : VK} {d e : D} {b : Bool} (hu : X.A.units + 65 < cLine) (I : Inv X pins σ H s) (rx : RelV x v) (ry : RelV y u) (rd : RelD X.K H d x) (re : RelD X.K H e y) (h : inD d e = some b) (q : Q (.bl (if neg then !b else b)) H) :
    wpAny (model X.prog X.w) X.A (compareOp (if neg then .NotIn else .In) v u) (EP X pins σ Q) X.xe s := by
  unfold inD at h
  split at h
  · split at h
    · cases h
      cases rd
      cases re
      rw [inS_eq] at q
      cases neg with
      | false => exact op_in_str pins s σ H _ _ v u Q I rx ry ⟨_, _, rfl, rfl, q⟩
      | true => exact op_notIn_str pins s σ H _ _ v u Q I rx ry ⟨_, _, rfl, rfl, q⟩
    · cases h
  · cases re with
    | lst h1 h2 =>
      cases ry
      exact any_low neg hu I rx rd h2 (.inl (.inl h1)) h q
  · cases re with
    | tup h1 h2 =>
      cases ry
      exact any_low neg hu I rx rd h2 (.inr h1) h q
  · obtain ⟨k, hk, rfl⟩ := Option.map_eq_some_iff.mp h
    cases re with
    | dct h1 h2 h3 =>
      cases ry
      have e := keyOf_rel rd hk
      subst e
      have lk := lookK_rel k h2 (paired_of_ds h3)
      have g : DGet H _ (kV k) (valV _ k) := .inl ⟨_, k, h1, rfl, rfl⟩
      have es := lk.isSome
      cases neg with
      | false => exact d_in (by omega) I g rx fun s' I' => ⟨.bl _, H, I', rfl, by rw [es]; exact q⟩
      | true => exact d_notIn (by omega) I g rx fun s' I' => ⟨.bl _, H, I', rfl, by rw [es]; exact q⟩
  · cases h
theorem ol_in (hu : X.A.units + 65 < cLine) : OpL X (compareOp .In) inO := by
  intro pins s σ H x y v u Q hd as G a b I rx ry w ra rb h
  unfold inO at h
  split at h
  · rename_i d e e2
    cases e3 : inD d e with
    | none => simp only [e3] at h; exact h.elim
    | some k =>
      simp only [e3] at h
      exact in_low false hu I rx ry (RelD.mono (fun _ _ => Fz.of) ra) (look_rel w rb e2) e3 (ResO.dat w (RelD.bl k) h)
  · exact h.elim
theorem ol_notIn (hu : X.A.units + 65 < cLine) : OpL X (compareOp .NotIn) notInO := by
  intro pins s σ H x y v u Q hd as G a b I rx ry w ra rb h
  unfold notInO at h
  split at h
  · rename_i d e e2
    cases e3 : inD d e with
    | none => simp only [e3] at h; exact h.elim
    | some k =>
      simp only [e3] at h
      exact in_low true hu I rx ry (RelD.mono (fun _ _ => Fz.of) ra) (look_rel w rb e2) e3 (ResO.dat w (RelD.bl (!k)) h)
  · exact h.elim
end
end DL
end L2

/-! DL9: subscripts, slices, stores to cells -/
namespace L2
namespace DL
open PySem PySem.Spec PyProof.Rows
variable [HasW]
/-! ### a cell is written -/
theorem liveB_set {as : List Addr} {G : Gh} {i : Nat} {go go' : GO} (hg : G[i]? = some go) (on : go.on = true) (on' : go'.on = true) (a : Addr) : liveB as (G.set i go') a = liveB as G a := by
  have hi := (List.getElem?_eq_some_iff.mp hg).1
  rw [Bool.eq_iff_iff, liveB_iff, liveB_iff]
  constructor
  · rintro ⟨j, g, h1, h2, h3⟩
    by_cases e : i = j
    · subst e; exact ⟨i, go, h1, hg, on⟩
    · rw [List.getElem?_set_ne e] at h2; exact ⟨j, g, h1, h2, h3⟩
  · rintro ⟨j, g, h1, h2, h3⟩
    by_cases e : i = j
    · subst e; exact ⟨i, go', h1, by rw [List.getElem?_set_self hi], on'⟩
    · exact ⟨j, g, h1, by rw [List.getElem?_set_ne e]; exact h2, h3⟩
theorem Wd.upd {K : PySem.W.Frag} {hd as : List Addr} {G : Gh} {H : Hp} (w : Wd K hd as G H) {i : Nat} {a : Addr} {go go' : GO} {o' : HO} (hi : as[i]? = some a) (hg : G[i]? = some go) (on : go.on = true) (on' : go'.on = true)
    (hr : RelGO K as (Fz hd as G H) (L2.upd H a o') a go') : Wd K hd as (G.set i go') (L2.upd H a o') ∧ Ext hd as G H as (G.set i go') (L2.upd H a o') := by
  have hl := liveB_set (as := as) hg on on'
  have la : liveB as G a = true := liveB_iff.mpr ⟨i, go, hi, hg, on⟩
  have f : ∀ b, Fz hd as (G.set i go') (L2.upd H a o') b = Fz hd as G H b := fun b => by
    unfold Fz
    rw [hl]
    by_cases e : b = a
    · subst e; rw [la, Bool.or_true, if_pos rfl, if_pos rfl]
    · rw [upd_ne e]
  have fe : Fz hd as (G.set i go') (L2.upd H a o') = Fz hd as G H := funext f
  refine ⟨⟨by simp [w.len], w.nd, fun j g b h1 h2 => ?_, fun b hb => ?_, fun b hb => ?_⟩, ⟨List.prefix_refl _, fun b o z => by rw [fe]; exact z, fun b hb => ?_⟩⟩
  · rw [fe]
    by_cases e : i = j
    · subst e
      rw [hi] at h2; cases h2
      rw [List.getElem?_set_self (List.getElem?_eq_some_iff.mp hg).1] at h1
      cases h1
      exact hr
    · rw [List.getElem?_set_ne e] at h1
      have hne : b ≠ a := fun z => by
        subst z
        exact e ((List.getElem?_inj (List.getElem?_eq_some_iff.mp hi).1 w.nd).mp (hi.trans h2.symm))
      exact (w.cell j g b h1 h2).mono (List.prefix_refl _) (fun _ _ z => z) fun u z => by rw [upd_ne hne]; exact z
  · by_cases e : b = a
    · subst e; rw [upd_same]; exact fun z => by cases z
    · rw [upd_ne e]; exact w.here b hb
  · have hne : b ≠ a := fun e => (w.hid b hb).2 (e ▸ List.mem_of_getElem? hi)
    rw [upd_ne hne]
    exact w.hid b hb
  · exact upd_ne fun e => (w.hid b hb).2 (e ▸ List.mem_of_getElem? hi)
/-! ### x[i] -/
theorem atI_ds {K : PySem.W.Frag} {F : Hp} {ds : List D} {xs : List V} {i : Int} {d : D} (r : RelDs K F ds xs) (h : atI ds i = some d) : ∃ v, atI xs i = some v ∧ RelD K F d v := by
  unfold atI at h ⊢
  rw [← r.length]
  cases e : ixN ds.length i with
  | none => rw [e] at h; cases h
  | some j =>
    rw [e] at h
    exact r.get h
theorem atI_pair {α β : Type} {P : α → β → Prop} {ds : List α} {xs : List β} {i : Int} {d : α} (r : Paired P ds xs) (h : atI ds i = some d) : ∃ v, atI xs i = some v ∧ P d v := by
  unfold atI at h ⊢
  rw [← Paired.length r]
  cases e : ixN ds.length i with
  | none => rw [e] at h; cases h
  | some j =>
    rw [e] at h
    exact paired_get r h
def ixO : O2 := fun x y G => match x with
  | .dat (.lst l) => (match y with
    | .dat (.int i) => (atI l i).map fun d => (.dat d, G)
    | _ => none)
  | .dat (.tup l) => (match y with
    | .dat (.int i) => (atI l i).map fun d => (.dat d, G)
    | _ => none)
  | .dat (.str z) => (match y with
    | .dat (.int i) => if z.length ≤ sizeLine then (atI z.cps.toList i).map fun c => (.dat (.str ⟨#[c]⟩), G) else none
    | _ => none)
  | .dat (.dct l) => (match y with
    | .dat k => (match keyOf k with
      | some k => (lookK l k).map fun d => (.dat d, G)
      | none => none)
    | _ => none)
  | .dat _ => none
  | .pr _ _ => none
  | .ref j => (match G[j]? with
    | some (.lst l) => (match y with
      | .dat (.int i) => (atI l i).map fun d => (d, G)
      | _ => none)
    | some (.dct l) => (match y with
      | .dat k => (match keyOf k with
        | some k => (lookK l k).map fun d => (d, G)
        | none => none)
      | _ => none)
    | _ => none)
section
variable {X : Cx} {W : WX} {a b : Expr} {ma mb : Ev → M Vl} {pos : Pos}
def IxL (X : Cx) (op : O2) : Prop :=
  ∀ (value slice : Expr) (pins : List (Addr × Obj)) (s : Shared) (σ : St) (H : Hp) (x y : V) (v u : Value) (Q : VK) (hd as : List Addr) (G : Gh) (a b : Vl), Inv X pins σ H s → RelV x v → RelV y u → Wd X.K hd as G H → RelVl X.K as (Fz hd as G H) a x → RelVl X.K as (Fz hd as G H) b y →
    ResO X.K hd as G H (op a b G) Q → subscripted slice false v u = operate [v, u] (getItem v u) → wpAny (model X.prog X.w) X.A (subscriptTail value slice v u) (EP X pins σ Q) X.xe s
theorem ix_dict (hu : X.A.units + 1 < cLine) {value slice : Expr} {pins : List (Addr × Obj)} {s : Shared} {σ : St} {H : Hp} {p : Addr} {y : V} {u : Value} {Q : VK} {r : V} (I : Inv X pins σ H s) (ry : RelV y u) (g : DGet H p y (some r)) (q : Q r H) (hs : subscripted slice false (.ref p) u = operate [.ref p, u] (getItem (.ref p) u)) :
    wpAny (model X.prog X.w) X.A (subscriptTail value slice (.ref p) u) (EP X pins σ Q) X.xe s :=
  tail_any (dict_typeIs I g) PySem.F.slot_dict_getitem.lookup (d_getItem hu I g ry fun w' s3 I3 rw' => ⟨r, H, I3, rw', q⟩) hs
theorem il_ix (hu : X.A.units + 1 < cLine) : IxL X ixO := by
  intro value slice pins s σ H x y v u Q hd as G a b I rx ry w ra rb h hs
  unfold ixO at h
  split at h
  · rename_i l
    split at h
    · rename_i i
      cases rb
      cases e : atI l i with
      | none => simp only [e] at h; exact h.elim
      | some d =>
        simp only [e] at h
        cases ra with
        | lst h1 h2 =>
          obtain ⟨z, e1, r1⟩ := atI_ds h2 e
          exact ix_list value slice pins s σ H _ _ v u Q I rx ry ⟨_, _, _, _, rfl, rfl, .inl (Fz.rd h1), e1, ResO.dat w r1 h⟩ hs
    · exact h.elim
  · rename_i l
    split at h
    · rename_i i
      cases rb
      cases e : atI l i with
      | none => simp only [e] at h; exact h.elim
      | some d =>
        simp only [e] at h
        cases ra with
        | tup h1 h2 =>
          obtain ⟨z, e1, r1⟩ := atI_ds h2 e
          exact ix_tup value slice pins s σ H _ _ v u Q I rx ry ⟨_, _, _, _, rfl, rfl, Fz.sqT h1, e1, ResO.dat w r1 h⟩ hs
    · exact h.elim
  · rename_i z
    split at h
    · rename_i i
      cases rb
      cases ra
      split at h
      · rename_i hz
        cases e : atI z.cps.toList i with
        | none => simp only [e] at h; exact h.elim
        | some c =>
          simp only [e] at h
          exact ix_str value slice pins s σ H _ _ v u Q I rx ry ⟨_, _, _, rfl, rfl, hz, e, ResO.dat w (RelD.str _) h⟩ hs
      · exact h.elim
    · exact h.elim
  · rename_i l
    split at h
    · rename_i kd
      cases ek : keyOf kd with
      | none => simp only [ek] at h; exact h.elim
      | some k =>
        simp only [ek] at h
        cases e : lookK l k with
        | none => simp only [e] at h; exact h.elim
        | some d =>
          simp only [e] at h
          have eb := keyOf_rel (show RelD X.K (Fz hd as G H) kd y from rb) ek
          subst eb
          cases ra with
          | @dct _ p kvs h1 h2 h3 =>
            cases rx
            have lk := lookK_rel k h2 (paired_of_ds h3)
            rw [e] at lk
            cases ev : valV kvs k with
            | none => rw [ev] at lk; exact lk.elim
            | some r =>
              rw [ev] at lk
              exact ix_dict hu I ry (.inl ⟨kvs, k, Fz.rd h1, rfl, ev.symm⟩) (ResO.dat w lk h) hs
    · exact h.elim
  · exact h.elim
  · exact h.elim
  · rename_i j
    obtain ⟨p, hp, rfl⟩ := ra
    split at h
    · rename_i l eg
      split at h
      · rename_i i
        cases rb
        cases e : atI l i with
        | none => simp only [e] at h; exact h.elim
        | some d =>
          simp only [e] at h
          obtain ⟨xs, h1, h2⟩ := w.at eg hp
          obtain ⟨z, e1, r1⟩ := atI_pair h2 e
          exact ix_list value slice pins s σ H _ _ v u Q I rx ry ⟨_, _, _, _, rfl, rfl, SqL.of h1, e1, ResO.one w r1 h⟩ hs
      · exact h.elim
    · rename_i l eg
      split at h
      · rename_i kd
        cases ek : keyOf kd with
        | none => simp only [ek] at h; exact h.elim
        | some k =>
          simp only [ek] at h
          cases e : lookK l k with
          | none => simp only [e] at h; exact h.elim
          | some d =>
            simp only [e] at h
            have eb := keyOf_rel (show RelD X.K (Fz hd as G H) kd y from rb) ek
            subst eb
            obtain ⟨kvs, h1, h2, h3⟩ := w.at eg hp
            cases rx
            have lk := lookK_rel k h2 h3
            rw [e] at lk
            cases ev : valV kvs k with
            | none => rw [ev] at lk; exact lk.elim
            | some r =>
              rw [ev] at lk
              exact ix_dict hu I ry (.inl ⟨kvs, k, .inl h1, rfl, ev.symm⟩) (ResO.one w lk h) hs
      · exact h.elim
    · exact h.elim
theorem q_ix {o : O2} (ho : IxL X o) (ha : QE X W a ma) (hb : QE X W b mb) (hs : PlainIx b := by exact fun _ _ => rfl) : QE X W (.Subscript a b pos) (opE o ma mb) :=
  ⟨fun pins s σ H Q I h => Subscript_ (two ha hb I h fun v u s2 x y H2 hd as G p q I2 rx ry w rp rq z => ho a b pins s2 σ H2 x y v u Q hd as G p q I2 rx ry w rp rq z (hs _ _))⟩
/-! ### x[lo:hi] -/
def cutG {α : Type} (xs : List α) (lo hi : Option Int) : List α := (xs.drop (HT.sIx xs.length 0 lo)).take (HT.sIx xs.length xs.length hi - HT.sIx xs.length 0 lo)
def slO (x : Vl) (lo hi : Option Int) (G : Gh) : Option (Vl × Gh) := match x with
  | .dat (.tup l) => some (.dat (.tup (cutG l lo hi)), G)
  | .dat (.str z) => if z.length ≤ sizeLine then some (.dat (.str (cutS z lo hi)), G) else none
  | x => (listD x G).map fun l => (.dat (.lst (cutG l lo hi)), G)
theorem cut_rel {K : PySem.W.Frag} {F : Hp} {ds : List D} {xs : List V} (r : RelDs K F ds xs) (lo hi : Option Int) : RelDs K F (cutG ds lo hi) (cutV xs lo hi) := by
  unfold cutG cutV
  rw [r.length]
  exact (r.drop _).take _
theorem sl_low {pins : List (Addr × Obj)} {s : Shared} {σ : St} {H : Hp} {x : V} {v vl vu : Value} {lo hi : Option Int} {sl : Addr} {Q : VK} {hd as : List Addr} {G : Gh} {a : Vl} (I : Inv X pins σ H s) (rx : RelV x v) (hs : s.heap.IsSliceOf sl vl vu .none) (pl : IsPart vl lo) (pu : IsPart vu hi)
    (w : Wd X.K hd as G H) (ra : RelVl X.K as (Fz hd as G H) a x) (h : ResO X.K hd as G H (slO a lo hi G) Q) :
    ∃ T id, typeLookup (.type T) "__getitem__" = pure (some (.builtin id)) ∧ s.TypeIs v T ∧ wpAny (model X.prog X.w) X.A (getItem v (.ref sl)) (EP X pins σ Q) X.xe s := by
  unfold slO at h
  split at h
  · rename_i l
    cases ra with
    | @tup _ p xs h1 h2 =>
      refine sl_tupA pins s σ H _ v vl vu lo hi sl Q I rx hs pl pu ⟨p, xs, rfl, Fz.sqT h1, fun z => ?_, fun _ q hq => ?_⟩
      · have e : cutG l lo hi = l := by
          unfold cutG
          rw [h2.length, z.1, z.2]
          simp [← h2.length]
        rw [e] at h
        exact ResO.dat w (.tup h1 h2) h
      · exact ResO.new w h hq fun F k f => .tup (SqT.of f) (RelDs.mono k (cut_rel h2 lo hi))
  · cases ra
    split at h
    · rename_i hz
      exact sl_str pins s σ H _ v vl vu lo hi sl Q I rx hs pl pu ⟨_, rfl, hz, ResO.dat w (RelD.str _) h⟩
    · exact h.elim
  · cases e : listD a G with
    | none => simp only [e] at h; exact h.elim
    | some l =>
      simp only [e] at h
      obtain ⟨p, xs, rfl, h1, h2⟩ := listD_rel w ra e
      exact sl_list pins s σ H _ v vl vu lo hi sl Q I rx hs pl pu ⟨p, xs, rfl, .inl h1, fun q hq => ResO.new w h hq fun F k f => .lst (.inl f) (RelDs.mono k (cut_rel h2 lo hi))⟩
/-- a slice's part -/
abbrev OD := Ev → M (Option Int)
def noP : OD := fun _ => ret none
def someP (m : Ev → M Vl) : OD := fun ρ => andThen (m ρ) fun x => match x with
  | .dat (.int i) => ret (some i)
  | _ => stuck
def ResP (K : PySem.W.Frag) (hd : List Addr) (W : WX) (σ : St) (as : List Addr) (G : Gh) (H : Hp) (r : Rs (Option Int)) (Q : Option Int → Hp → Prop) : Prop := match r with
  | .ok x G' => ∀ as' H', Ext hd as G H as' G' H' → Wd K hd as' G' H' → Q x H'
  | .ex c d G' => ∀ as' H' dd, Ext hd as G H as' G' H' → Wd K hd as' G' H' → Thrown K hd as' G' H' c d dd → W (.ref (He.ga K c)) (some dd) σ H'
  | .no => False
def lowP (K : PySem.W.Frag) (W : WX) (m : OD) : TO := fun σ H Q => ∃ hd as ρ G, At K hd as ρ G σ H ∧ ResP K hd W σ as G H (m ρ G) Q
theorem qp_none : PO X none (lowP X.K W noP) := ⟨fun pins s σ H Q I ⟨hd, as, ρ, G, a, q⟩ => po_none.run pins s σ H Q I (q as H (Ext.refl _ _ _ _) a.wd)⟩
theorem qp_some {e : Expr} {m : Ev → M Vl} (h : QE X W e m) : PO X (some e) (lowP X.K W (someP m)) := ⟨fun pins s σ H Q I ⟨hd, as, ρ, G, a, q⟩ => (po_some h).run pins s σ H Q I (by
  refine ⟨hd, as, ρ, G, a, ?_⟩
  unfold someP andThen at q
  cases e : m ρ G with
  | ok x G' =>
    rw [e] at q
    intro as' H' v ee w r
    cases x with
    | ref i => exact q.elim
    | pr _ _ => exact q.elim
    | dat d =>
      cases d with
      | int i => cases r; exact ⟨i, rfl, q as' H' ee w⟩
      | _ => exact q.elim
  | ex c d G' => rw [e] at q; exact q
  | no => rw [e] at q; exact q)⟩
def sliceE (m : Ev → M Vl) (ml mh : OD) : Ev → M Vl := fun ρ => andThen (m ρ) fun x => andThen (ml ρ) fun lo => andThen (mh ρ) fun hi => fun G => ofO (slO x lo hi G)
theorem Res.bindP {K : PySem.W.Frag} {hd : List Addr} {σ : St} {as : List Addr} {G : Gh} {H : Hp} {m : M (Option Int)} {f : Option Int → M Vl} {Q : VK} (h : Res K hd W σ as G H (andThen m f G) Q) :
    ResP K hd W σ as G H (m G) fun x H1 => ∃ as1 G1, Ext hd as G H as1 G1 H1 ∧ Wd K hd as1 G1 H1 ∧ Res K hd W σ as1 G1 H1 (f x G1) Q := by
  unfold andThen at h
  cases e : m G with
  | ok x G' =>
    rw [e] at h
    exact fun as' H' ee w => ⟨as', G', ee, w, h.pull ee⟩
  | ex c d G' => rw [e] at h; exact h
  | no => rw [e] at h; exact h
theorem q_slice {e : Expr} {m : Ev → M Vl} {lo hi : Option Expr} {ml mh : OD} {p2 : Pos} (he : QE X W e m) (hl : PO X lo (lowP X.K W ml)) (hu : PO X hi (lowP X.K W mh)) : QE X W (.Subscript e (.Slice lo hi none p2) pos) (sliceE m ml mh) := by
  refine ⟨fun pins s σ H Q I ⟨hd, as, ρ, G, at0, q⟩ => ?_⟩
  refine Subscript_ (thn (he.run pins s σ H _ I ⟨hd, as, ρ, G, at0, Res.bind q⟩) fun v s1 ⟨x, H1, I1, r1, as1, G1, p, e1, w1, rp, q1⟩ => ?_)
  refine wpAny_Slice (thn (hl.run pins s1 σ H1 _ I1 ⟨hd, as1, ρ, G1, at0.ext e1 w1, Res.bindP q1⟩) fun vl s2 ⟨l, H2, I2, pl, as2, G2, e2, w2, q2⟩ => thn (hu.run pins s2 σ H2 _ I2 ⟨hd, as2, ρ, G2, at0.ext (e1.trans e2) w2, Res.bindP q2⟩) fun vu s3 ⟨u, H3, I3, pu, as3, G3, e3, w3, q3⟩ => ?_)
  rw [evalPart_none]
  refine wpAny_pure ?_
  have I4 : Inv X pins σ H3 { s3 with heap := s3.heap.push { cls := .type "slice", data := .fields #[vl, vu, .none] } } := I3.kept (t' := s3.toks) fun b ob q => Heap.get?_push_of_some _ q
  obtain ⟨T, id, hT, ht, hg⟩ := sl_low (Q := Q) I4 r1 (Heap.IsSliceOf.new ..) pl pu w3 (rp.ext (e2.trans e3)) (Res.ofO q3)
  show wpAny (model X.prog X.w) X.A (subscriptTail e (.Slice lo hi none p2) v (.ref s3.heap.objs.size)) (EP X pins σ Q) X.xe { s3 with heap := s3.heap.push { cls := .type "slice", data := .fields #[vl, vu, .none] } }
  exact tail_any (ops := [.ref s3.heap.objs.size, v]) ht hT hg (by with_unfolding_all rfl)
/-! ### x[i] = v -/
def putD {α : Type} (l : List (D × α)) (k : Key) (x : α) : List (D × α) := if (l.any fun p => keyIsD k p.1) = true then l.map (fun p => if keyIsD k p.1 = true then (p.1, x) else p) else l ++ [(keyD k, x)]
def setO (o i v : Vl) (G : Gh) : Option Gh := match o with
  | .ref j => (match G[j]? with
    | some (.lst l) => (match i with
      | .dat (.int i) => (ixN l.length i).map fun n => G.set j (.lst (l.set n v))
      | _ => none)
    | some (.dct l) => (match i with
      | .dat k => (match keyOf k with
        | some k => if l.length < sizeLine then some (G.set j (.dct (putD l k v))) else none
        | none => none)
      | _ => none)
    | _ => none)
  | _ => none
theorem putD_rel {α : Type} {P : α → V → Prop} {l : List (D × α)} {kvs : List (Key × V)} {k : Key} {x : α} {v : V} (h1 : l.map (·.1) = kvs.map (fun p => keyD p.1)) (h2 : Paired P (l.map (·.2)) (kvs.map (·.2))) (r : P x v) :
    (putD l k x).map (·.1) = (putK kvs k v).map (fun p => keyD p.1) ∧ Paired P ((putD l k x).map (·.2)) ((putK kvs k v).map (·.2)) := by
  have any : ∀ {l : List (D × α)} {kvs : List (Key × V)}, l.map (·.1) = kvs.map (fun p => keyD p.1) → (l.any fun p => keyIsD k p.1) = (kvs.any fun kv => decide (kv.1 = k)) := by
    intro l
    induction l with
    | nil => intro kvs h; cases kvs with | nil => rfl | cons _ _ => simp at h
    | cons p l ih =>
      intro kvs h
      cases kvs with
      | nil => simp at h
      | cons q kvs =>
        simp only [List.map_cons, List.cons.injEq] at h
        rw [List.any_cons, List.any_cons, ih h.2, h.1, keyIsD_eq]
  have mp : ∀ {l : List (D × α)} {kvs : List (Key × V)}, l.map (·.1) = kvs.map (fun p => keyD p.1) → Paired P (l.map (·.2)) (kvs.map (·.2)) →
      (l.map (fun p => if keyIsD k p.1 = true then (p.1, x) else p)).map (·.1) = (kvs.map (fun kv => if kv.1 = k then (kv.1, v) else kv)).map (fun p => keyD p.1) ∧
      Paired P ((l.map (fun p => if keyIsD k p.1 = true then (p.1, x) else p)).map (·.2)) ((kvs.map (fun kv => if kv.1 = k then (kv.1, v) else kv)).map (·.2)) := by
    intro l
    induction l with
    | nil => intro kvs h _; cases kvs with | nil => exact ⟨rfl, .nil⟩ | cons _ _ => simp at h
    | cons p l ih =>
      intro kvs h hp
      cases kvs with
      | nil => simp at h
      | cons q kvs =>
        simp only [List.map_cons, List.cons.injEq] at h hp
        cases hp with
        | cons p1 p2 =>
          obtain ⟨i1, i2⟩ := ih h.2 p2
          have e : keyIsD k p.1 = decide (q.1 = k) := by rw [h.1, keyIsD_eq]
          by_cases eq : q.1 = k
          · have e' : keyIsD k p.1 = true := by rw [e]; exact decide_eq_true eq
            simp only [List.map_cons, if_pos e', if_pos eq]
            exact ⟨by rw [i1, h.1], .cons r i2⟩
          · have e' : ¬ keyIsD k p.1 = true := by rw [e]; simpa using eq
            simp only [List.map_cons, if_neg e', if_neg eq]
            exact ⟨by rw [i1, h.1], .cons p1 i2⟩
  unfold putD putK
  rw [any h1]
  by_cases hc : (kvs.any fun kv => decide (kv.1 = k)) = true
  · rw [if_pos hc, if_pos hc]
    exact mp h1 h2
  · rw [if_neg hc, if_neg hc]
    refine ⟨by simp [h1], ?_⟩
    rw [List.map_append, List.map_append]
    have app : ∀ {xs : List α} {ys : List V}, Paired P xs ys → Paired P (xs ++ [x]) (ys ++ [v]) := fun h => by
      induction h with
      | nil => exact .cons r .nil
      | cons a _ ih => exact .cons a ih
    exact app h2
theorem paired_set {α β : Type} {P : α → β → Prop} {x : α} {v : β} (r : P x v) : ∀ {xs : List α} {ys : List β} (n : Nat), Paired P xs ys → Paired P (xs.set n x) (ys.set n v)
  | _, _, _, .nil => .nil
  | _, _, 0, .cons _ t => .cons r t
  | _, _, n + 1, .cons q t => .cons q (paired_set r n t)
theorem set_low (hu : X.A.units + 1 < cLine) {pins : List (Addr × Obj)} {s : Shared} {σ : St} {H : Hp} {o i v : V} {ov iv u : Value} {Q : Hp → Prop} {hd as : List Addr} {G G' : Gh} {a b c : Vl} (I : Inv X pins σ H s) (ro : RelV o ov) (ri : RelV i iv) (rv : RelV v u)
    (w : Wd X.K hd as G H) (ra : RelVl X.K as (Fz hd as G H) a o) (rb : RelVl X.K as (Fz hd as G H) b i) (rc : RelVl X.K as (Fz hd as G H) c v) (h : setO a b c G = some G')
    (q : ∀ H', Ext hd as G H as G' H' → Wd X.K hd as G' H' → Q H') : wpAny (model X.prog X.w) X.A (setItem ov iv u) (fun _ s' => ∃ H', Inv X pins σ H' s' ∧ Q H') X.xe s := by
  cases a with
  | dat d => cases h
  | pr _ _ => cases h
  | ref j =>
    obtain ⟨p, hp, rfl⟩ := ra
    simp only [setO] at h
    cases eg : G[j]? with
    | none => rw [eg] at h; cases h
    | some go =>
      rw [eg] at h
      cases go with
      | lst l =>
        cases b with
        | ref _ => cases h
        | pr _ _ => cases h
        | dat bd =>
          cases bd with
          | int n =>
            obtain ⟨m, hm, rfl⟩ := Option.map_eq_some_iff.mp h
            obtain ⟨xs, h1, h2⟩ := w.at eg hp
            cases rb
            have hl := Paired.length h2
            obtain ⟨w2, e2⟩ := w.upd (go' := .lst (l.set m c)) (o' := .lst (xs.set m v)) hp eg rfl rfl ⟨_, upd_same, paired_set rc m h2⟩
            exact set_list pins s σ H _ _ v ov iv u Q I ro ri rv ⟨p, xs, n, m, rfl, rfl, h1, by rw [← hl]; exact hm, q _ e2 w2⟩
          | _ => cases h
      | dct l =>
        cases b with
        | ref _ => cases h
        | pr _ _ => cases h
        | dat bd =>
          simp only at h
          cases ek : keyOf bd with
          | none => rw [ek] at h; cases h
          | some k =>
            rw [ek] at h
            by_cases hz : l.length < sizeLine
            · simp only [if_pos hz] at h
              cases h
              have eb := keyOf_rel (show RelD X.K (Fz hd as G H) bd i from rb) ek
              subst eb
              obtain ⟨kvs, h1, h2, h3⟩ := w.at eg hp
              obtain ⟨k1, k2⟩ := putD_rel (k := k) h2 h3 rc
              have hl : kvs.length < sizeLine := by
                have := congrArg List.length h2
                simp only [List.length_map] at this
                omega
              obtain ⟨w2, e2⟩ := w.upd (go' := .dct (putD l k c)) (o' := .dK (putK kvs k v)) hp eg rfl rfl ⟨_, upd_same, k1, k2⟩
              cases ro
              exact d_setItem hu I (DPut.k h1 hl) ri rv fun s4 I4 => ⟨_, I4, q _ e2 w2⟩
            · simp only [if_neg hz] at h
              cases h
      | dcN _ => cases h
      | ins _ _ => cases h
      | gone => cases h
/-- o[i] = e -/
def putS (mv mo mi : Ev → M Vl) : SD := thenS mv fun v => thenS mo fun o => thenS mi fun i => fun ρ G => match setO o i v G with
  | some G' => .nx ρ G'
  | none => .no
theorem q_put {o i value : Expr} {mo mi mv : Ev → M Vl} {pos' : Pos} (hu : X.A.units + 1 < cLine) (ho : QE X W o mo) (hi : QE X W i mi) (hv : QE X W value mv) (hs : swapsWith value (some (.Subscript o i pos')) pos.line X.env = pure false := by rfl) : QS X W (.Assign [.Subscript o i pos'] value pos) (putS mv mo mi) := by
  refine ⟨fun pins s σ H Z I ⟨hd, as, ρ, G, a, q⟩ => ?_⟩
  refine wpAny_Assign_Subscript (thn (hv.run pins s σ H _ I ⟨hd, as, ρ, G, a, thenS_mid a q⟩) fun r s1 ⟨v, H1, I1, rv, as1, G1, x1, e1, a1, rx1, q1⟩ =>
    thn (ho.run pins s1 σ H1 _ I1 ⟨hd, as1, ρ, G1, a1, thenS_mid a1 q1⟩) fun u s2 ⟨o, H2, I2, ro, as2, G2, x2, e2, a2, rx2, q2⟩ =>
    thn (hi.run pins s2 σ H2 _ I2 ⟨hd, as2, ρ, G2, a2, thenS_mid a2 q2⟩) fun iv s3 ⟨y, H3, I3, ry, as3, G3, x3, e3, a3, rx3, q3⟩ => ?_) hs
  cases es : setO x2 x3 x1 G3 with
  | none => simp only [es] at q3; exact q3.elim
  | some G' =>
    simp only [es] at q3
    exact thn (set_low (Q := fun H' => Z.nx σ H') hu I3 ro ry rv a3.wd (rx2.ext e3) rx3 (rx1.ext (e2.trans e3)) es fun H' ee w' => q3 _ H' σ ee (a3.ext ee w')) fun _ s4 ⟨H4, I4, q4⟩ => ⟨σ, H4, I4, q4⟩
end
end DL
end L2

/-! DL10: targets, sources of loops, for, while -/
namespace L2
namespace DL
open PySem PySem.Spec PyProof.Rows
variable [HasW]

/-! ### targets -/
abbrev GD := Vl → Ev → Option Ev
abbrev GDs := List Vl → Ev → Option Ev
/-- what a store leaves: only the slots js are others -/
def lowG (K : PySem.W.Frag) (js : List Nat) (m : GD) : TG := fun v σ H Q => ∃ hd as ρ G x, At K hd as ρ G σ H ∧ RelVl K as (Fz hd as G H) x v ∧ ∃ ρ', m x ρ = some ρ' ∧
  ∀ σ', At K hd as ρ' G σ' H → σ'.length = σ.length → (∀ i, i ∉ js → σ'[i]? = σ[i]?) → Q σ' H
def lowGs (K : PySem.W.Frag) (js : List Nat) (m : GDs) : TGs := fun vs σ H Q => ∃ hd as ρ G xs, At K hd as ρ G σ H ∧ RelVls K as (Fz hd as G H) xs vs ∧ ∃ ρ', m xs ρ = some ρ' ∧
  ∀ σ', At K hd as ρ' G σ' H → σ'.length = σ.length → (∀ i, i ∉ js → σ'[i]? = σ[i]?) → Q σ' H
abbrev QG (X : Cx) (tg : Expr) (js : List Nat) (m : GD) : Prop := PG X tg (lowG X.K js m)
abbrev QGs (X : Cx) (tg : List Expr) (js : List Nat) (m : GDs) : Prop := PGs X tg (lowGs X.K js m)
theorem _root_.L2.PG.imp {X : Cx} {e : Expr} {t t' : TG} (h : PG X e t) (k : ∀ v σ H Q, t' v σ H Q → t v σ H Q) : PG X e t' := ⟨fun pins s σ H v u Q I r q => h.run pins s σ H v u Q I r (k v σ H Q q)⟩
theorem _root_.L2.PGs.imp {X : Cx} {e : List Expr} {t t' : TGs} (h : PGs X e t) (k : ∀ v σ H Q, t' v σ H Q → t v σ H Q) : PGs X e t' := ⟨fun pins s σ H v u Q I r q => h.run pins s σ H v u Q I r (k v σ H Q q)⟩
def nameG (i : Nat) : GD := fun x ρ => some (ρ.set i (some x))
def nilG : GDs := fun xs ρ => match xs with
  | [] => some ρ
  | _ :: _ => none
def consG (g : GD) (r : GDs) : GDs := fun xs ρ => match xs with
  | [] => none
  | x :: xs => match g x ρ with
    | some ρ' => r xs ρ'
    | none => none
def tupG (n : Nat) (r : GDs) : GD := fun x ρ => match x with
  | .dat (.tup l) => if l.length = n then r (l.map .dat) ρ else none
  | _ => none
theorem rels_map {K : PySem.W.Frag} {as : List Addr} {F : Hp} : ∀ {ds : List D} {vs : List V}, RelDs K F ds vs → RelVls K as F (ds.map .dat) vs
  | _, _, .nil => .nil
  | _, _, .cons h r => .cons h (rels_map r)
section
variable {X : Cx} {W : WX} {pos : Pos}
theorem qg_name {i : Nat} {x : Str} (hN : X.N.Nodup) (hi : X.N[i]? = some x) (hx : Loc X.env.scope x) (hf : X.fn x = true ∨ X.env.scope.names.lookup x = some .local := by first | exact .inl rfl | exact .inr rfl | assumption) : QG X (.Name x pos) [i] (nameG i) :=
  (pg_name hN hi hx hf).imp fun v σ H Q ⟨hd, as, ρ, G, y, a, r, ρ', e, q⟩ => by
    cases e
    exact q _ (a.set r) (by simp) fun j hj => by rw [List.getElem?_set_ne (fun z => hj (by simp [z]))]
theorem qgs_nil : QGs X [] [] nilG := pgs_nil.imp fun v σ H Q ⟨hd, as, ρ, G, xs, a, r, ρ', e, q⟩ => by
  cases r with
  | nil => cases e; exact ⟨rfl, q σ a rfl fun _ _ => rfl⟩
  | cons _ _ => cases e
theorem qgs_cons {e : Expr} {es : List Expr} {g : GD} {r : GDs} {js ks : List Nat} (h1 : QG X e js g) (h2 : QGs X es ks r)
    (hs : (assignEach (e :: es) X.env).map (·.2) = assign e X.env :: (assignEach es X.env).map (·.2) := by rfl) : QGs X (e :: es) (js ++ ks) (consG g r) :=
  (pgs_cons h1 h2 hs).imp fun v σ H Q ⟨hd, as, ρ, G, xs, a, rr, ρ', ee, q⟩ => by
    cases rr with
    | nil => cases ee
    | @cons x y xs ys r1 r2 =>
      unfold consG at ee
      cases eg : g x ρ with
      | none => simp only [eg] at ee; cases ee
      | some ρ1 =>
        simp only [eg] at ee
        refine ⟨y, ys, rfl, hd, as, ρ, G, x, a, r1, ρ1, eg, fun σ1 a1 l1 k1 => ⟨hd, as, ρ1, G, xs, a1, r2, ρ', ee, fun σ2 a2 l2 k2 => q σ2 a2 (l2.trans l1) fun i hi => ?_⟩⟩
        rw [k2 i fun z => hi (List.mem_append_right _ z), k1 i fun z => hi (List.mem_append_left _ z)]
theorem qg_tup {es : List Expr} {k n : Nat} {js : List Nat} {r : GDs} (hc : X.calm = true) (h : QGs X es js r)
    (hn : (assignEach es X.env).length = n := by rfl) (hst : (assignEach es X.env).findIdx? (·.1) = none := by rfl) : QG X (.Tuple es k pos) js (tupG n r) :=
  (pg_tup hc h hn hst).imp fun v σ H Q ⟨hd, as, ρ, G, x, a, rr, ρ', e, q⟩ => by
    unfold tupG at e
    split at e
    · rename_i l
      cases rr with
      | tup h1 h2 =>
        split at e
        · rename_i hl
          exact ⟨_, _, rfl, Fz.sqT h1, by rw [← h2.length]; exact hl, hd, as, ρ, G, _, a, rels_map h2, ρ', e, q⟩
        · cases e
    · cases e
/-- a store of a value -/
def asgS (m : Ev → M Vl) (g : GD) : SD := thenS m fun x ρ G => match g x ρ with
  | some ρ' => .nx ρ' G
  | none => .no
theorem q_asg {tg e : Expr} {m : Ev → M Vl} {g : GD} {js : List Nat} (he : QE X W e m) (hg : QG X tg js g) (hs : swapsWithSole [tg] e pos.line X.env = pure false := by rfl) (hw : swappedStores [tg] e X.env = pure none := by rfl)
    (h1 : (assignEach [tg] X.env).map (·.2) = [assign tg X.env] := by rfl) : QS X W (.Assign [tg] e pos) (asgS m g) :=
  (ps_asg he hg hs hw h1).imp fun Z σ H ⟨hd, as, ρ, G, a, q⟩ => ⟨hd, as, ρ, G, a, (thenS_mid a q).mono fun v H1 ⟨as1, G1, x, e1, a1, r1, q1⟩ => by
    cases eg : g x ρ with
    | none => simp only [eg] at q1; exact q1.elim
    | some ρ' =>
      simp only [eg] at q1
      exact ⟨hd, as1, ρ, G1, x, a1, r1, ρ', eg, fun σ' a' _ _ => q1 as1 H1 σ' (Ext.refl _ _ _ _) a'⟩⟩
end
end DL
end L2

/-! DL11: several stores at once; sources of loops; for, while -/
namespace L2
namespace DL
open PySem PySem.Spec PyProof.Rows
variable [HasW]
section
variable {X : Cx} {W : WX} {pos : Pos}
/-- a, b = x, y -/
def parS (m : Ev → M (List Vl)) (g : GDs) : SD := thenS m fun xs ρ G => match g xs ρ with
  | some ρ' => .nx ρ' G
  | none => .no
theorem thenS_midA {K : PySem.W.Frag} {hd as : List Addr} {ρ : Ev} {G : Gh} {σ : St} {H : Hp} {Z : Ends} {m : Ev → M (List Vl)} {f : List Vl → SD} (a : At K hd as ρ G σ H) (h : ResS K hd W as G H (thenS m f ρ G) Z) :
    ResA K hd W σ as G H (m ρ G) fun v H1 => ∃ as1 G1 x, Ext hd as G H as1 G1 H1 ∧ At K hd as1 ρ G1 σ H1 ∧ RelVls K as1 (Fz hd as1 G1 H1) x v ∧ ResS K hd W as1 G1 H1 (f x ρ G1) Z := by
  unfold thenS at h
  cases em : m ρ G with
  | ok x G' =>
    rw [em] at h
    exact fun as' H' v e w r => ⟨as', G', x, e, a.ext e w, r, h.pull e⟩
  | ex c d G' =>
    rw [em] at h
    exact fun as' H' dd e w t => h as' H' σ dd e (a.ext e w) t
  | no => rw [em] at h; exact h
theorem q_par2 {i j : Nat} {x y : Str} {a b : Expr} {m : Ev → M (List Vl)} {px py pt : Pos} {kt k2 pt2} (hc : X.calm = true) (hN : X.N.Nodup) (hi : X.N[i]? = some x) (hj : X.N[j]? = some y) (hij : i ≠ j)
    (hx : X.env.scope.names.lookup x = some .local) (hy : X.env.scope.names.lookup y = some .local) (ha : QA X W [a, b] m)
    (hw : swappedStores [.Tuple [.Name x px, .Name y py] kt pt] (.Tuple [a, b] k2 pt2) X.env = pure (some [x, y]) := by rfl)
    (hs : swapsWithSole [.Tuple [.Name x px, .Name y py] kt pt] (.Tuple [a, b] k2 pt2) pos.line X.env = pure false := by rfl) :
    QS X W (.Assign [.Tuple [.Name x px, .Name y py] kt pt] (.Tuple [a, b] k2 pt2) pos) (parS m (consG (nameG i) (consG (nameG j) nilG))) :=
  (ps_par hc hN hi hj hij hx hy ha hw hs).imp fun Z σ H ⟨hd, as, ρ, G, a, q⟩ => ⟨hd, as, ρ, G, a, (thenS_midA a q).mono fun vs H1 ⟨as1, G1, xs, e1, a1, r1, q1⟩ => by
    cases r1 with
    | nil => exact q1.elim
    | cons ra r1 =>
      cases r1 with
      | nil => exact q1.elim
      | cons rb r1 =>
        cases r1 with
        | cons _ _ => exact q1.elim
        | nil => exact ⟨_, _, rfl, q1 as1 H1 _ (Ext.refl _ _ _ _) ((a1.set ra).set rb)⟩⟩
theorem q_par3 {i j l : Nat} {x y z : Str} {a b c : Expr} {m : Ev → M (List Vl)} {px py pz pt : Pos} {kt k2 pt2} (hc : X.calm = true) (hN : X.N.Nodup) (hi : X.N[i]? = some x) (hj : X.N[j]? = some y) (hl : X.N[l]? = some z) (hij : i ≠ j) (hil : i ≠ l) (hjl : j ≠ l)
    (hx : X.env.scope.names.lookup x = some .local) (hy : X.env.scope.names.lookup y = some .local) (hz : X.env.scope.names.lookup z = some .local) (ha : QA X W [a, b, c] m)
    (hw : swappedStores [.Tuple [.Name x px, .Name y py, .Name z pz] kt pt] (.Tuple [a, b, c] k2 pt2) X.env = pure (some [x, y, z]) := by rfl)
    (hs : swapsWithSole [.Tuple [.Name x px, .Name y py, .Name z pz] kt pt] (.Tuple [a, b, c] k2 pt2) pos.line X.env = pure false := by rfl) :
    QS X W (.Assign [.Tuple [.Name x px, .Name y py, .Name z pz] kt pt] (.Tuple [a, b, c] k2 pt2) pos) (parS m (consG (nameG i) (consG (nameG j) (consG (nameG l) nilG)))) :=
  (ps_par3 hc hN hi hj hl hij hil hjl hx hy hz ha hw hs).imp fun Z σ H ⟨hd, as, ρ, G, a, q⟩ => ⟨hd, as, ρ, G, a, (thenS_midA a q).mono fun vs H1 ⟨as1, G1, xs, e1, a1, r1, q1⟩ => by
    cases r1 with
    | nil => exact q1.elim
    | cons ra r1 =>
      cases r1 with
      | nil => exact q1.elim
      | cons rb r1 =>
        cases r1 with
        | nil => exact q1.elim
        | cons rc r1 =>
          cases r1 with
          | cons _ _ => exact q1.elim
          | nil => exact ⟨_, _, _, rfl, q1 as1 H1 _ (Ext.refl _ _ _ _) (((a1.set ra).set rb).set rc)⟩⟩
/-- the same with a tuple in between -/
theorem q_parT {es ts : List Expr} {m : Ev → M (List Vl)} {g : GDs} {js : List Nat} {n kt k2 : Nat} {pt pt2 : Pos} (hc : X.calm = true) (ha : QA X W es m) (hg : QGs X ts js g) (hz : ∀ ρ G xs G', m ρ G = .ok xs G' → xs.length = n) (hn : n ≤ sizeLine)
    (ht : (assignEach ts X.env).length = n := by rfl) (hst : (assignEach ts X.env).findIdx? (·.1) = none := by rfl)
    (hs : swapsWithSole [.Tuple ts kt pt] (.Tuple es k2 pt2) pos.line X.env = pure false := by rfl) (hw : swappedStores [.Tuple ts kt pt] (.Tuple es k2 pt2) X.env = pure none := by rfl)
    (h1 : (assignEach [.Tuple ts kt pt] X.env).map (·.2) = [assign (.Tuple ts kt pt) X.env] := by rfl) : QS X W (.Assign [.Tuple ts kt pt] (.Tuple es k2 pt2) pos) (parS m g) :=
  (ps_asg (pe_tup ha) (pg_tup hc hg ht hst) hs hw h1).imp fun Z σ H ⟨hd, as, ρ, G, a, q⟩ => ⟨hd, as, ρ, G, a, by
    have t := thenS_midA a q
    cases em : m ρ G with
    | no => rw [em] at t; exact t
    | ex c d G' => rw [em] at t; exact t
    | ok xs G' =>
      rw [em] at t
      have hx := hz ρ G xs G' em
      intro as' H' vs e w r
      have q2 : ResS X.K hd W as G H (match g xs ρ with
        | some ρ' => .nx ρ' G'
        | none => .no) Z := by unfold parS thenS at q; rw [em] at q; exact q
      have hv : vs.length = n := by rw [← Paired.length r]; exact hx
      refine ⟨by rw [hv]; exact hn, fun p hp => ?_⟩
      obtain ⟨w2, e2, f2⟩ := w.new (.tup vs) hp
      cases eg : g xs ρ with
      | none => rw [eg] at q2; exact q2.elim
      | some ρ' =>
        rw [eg] at q2
        exact ⟨p, vs, rfl, SqT.mono (fun _ _ => Fz.of) (SqT.of f2), hv, hd, as', ρ, G', xs, a.ext (e.trans e2) w2, r.ext e2, ρ', eg, fun σ' a' _ _ => q2 as' _ σ' (e.trans e2) a'⟩⟩
theorem len_nil {ρ : Ev} {G G' : Gh} {xs : List Vl} (h : nilA ρ G = .ok xs G') : xs.length = 0 := by cases h; rfl
theorem len_cons {m : Ev → M Vl} {r : Ev → M (List Vl)} {n : Nat} (hr : ∀ ρ G xs G', r ρ G = .ok xs G' → xs.length = n) {ρ : Ev} {G G' : Gh} {xs : List Vl} (h : consA m r ρ G = .ok xs G') : xs.length = n + 1 := by
  unfold consA andThen at h
  cases e : m ρ G with
  | no => rw [e] at h; cases h
  | ex c d G' => rw [e] at h; cases h
  | ok x G1 =>
    rw [e] at h
    simp only at h
    cases e2 : r ρ G1 with
    | no => rw [e2] at h; cases h
    | ex c d G' => rw [e2] at h; cases h
    | ok ys G2 =>
      rw [e2] at h
      cases h
      simp [hr _ _ _ _ e2]
end

/-! ### sources -/
/-- what a loop goes through: n turns, the item of a turn, and whether the end is the end -/
structure Src where
  n : Nat
  item : Nat → Gh → Option Vl
  fin : Gh → Bool
def fixS (l : List D) : Src := ⟨l.length, fun t _ => l[t]?.map .dat, fun _ => true⟩
def celS (i n : Nat) : Src := ⟨n, fun t G => match G[i]? with
  | some (.lst l) => if l.length = n then l[t]? else none
  | _ => none, fun G => match G[i]? with
  | some (.lst l) => decide (l.length = n)
  | _ => false⟩
/-- later, perhaps with more that is hidden -/
structure Later (hd0 as0 : List Addr) (G0 : Gh) (H0 : Hp) (hd as : List Addr) (G : Gh) (H : Hp) : Prop where
  pre : as0 <+: as
  keep : ∀ a o, Fz hd0 as0 G0 H0 a = some o → Fz hd as G H a = some o
theorem Ext.later {hd as0 as : List Addr} {G0 G : Gh} {H0 H : Hp} (e : Ext hd as0 G0 H0 as G H) : Later hd as0 G0 H0 hd as G H := ⟨e.pre, e.keep⟩
theorem Later.ext {hd0 hd as0 as as2 : List Addr} {G0 G G2 : Gh} {H0 H H2 : Hp} (l : Later hd0 as0 G0 H0 hd as G H) (e : Ext hd as G H as2 G2 H2) : Later hd0 as0 G0 H0 hd as2 G2 H2 := ⟨l.pre.trans e.pre, fun a o h => e.keep a o (l.keep a o h)⟩
structure SrcOk (K : PySem.W.Frag) (hd as0 : List Addr) (G0 : Gh) (H0 : Hp) (S : Src) (J : It) : Prop where
  goes : ∀ (t : Nat) (h as : List Addr) (G : Gh) (H : Hp) (x : Vl), Later hd as0 G0 H0 h as G H → Wd K h as G H → t < S.n → S.item t G = some x →
    J.go t H ∧ ∀ v H', J.yld t H v H' → Ext h as G H as G H' ∧ Wd K h as G H' ∧ RelVl K as (Fz h as G H') x v
  stops : ∀ (h as : List Addr) (G : Gh) (H : Hp), Later hd as0 G0 H0 h as G H → Wd K h as G H → S.fin G = true → J.stop S.n H
def ResI (K : PySem.W.Frag) (hd : List Addr) (W : WX) (σ : St) (as : List Addr) (G : Gh) (H : Hp) (r : Rs Src) (R : It → Hp → Prop) : Prop := match r with
  | .ok S G' => ∀ as' H' J, Ext hd as G H as' G' H' → Wd K hd as' G' H' → SrcOk K hd as' G' H' S J → R J H'
  | .ex c d G' => ∀ as' H' dd, Ext hd as G H as' G' H' → Wd K hd as' G' H' → Thrown K hd as' G' H' c d dd → W (.ref (He.ga K c)) (some dd) σ H'
  | .no => False
def lowI (K : PySem.W.Frag) (W : WX) (m : Ev → M Src) : TI := fun σ H R => ∃ hd as ρ G, At K hd as ρ G σ H ∧ ResI K hd W σ as G H (m ρ G) R
abbrev QI (X : Cx) (W : WX) (tg iter : Expr) (m : Ev → M Src) : Prop := PI X tg iter (lowI X.K W m)
theorem _root_.L2.PI.imp {X : Cx} {tg e : Expr} {t t' : TI} (h : PI X tg e t) (k : ∀ σ H R, t' σ H R → t σ H R) : PI X tg e t' := ⟨fun pins s σ H R I q => h.run pins s σ H R I (k σ H R q)⟩

/-! ### for -/
def loopS (body : SD) (g : GD) (S : Src) : Nat → Nat → Ev → Gh → SR
  | 0, _, ρ, G => if S.fin G = true then .nx ρ G else .no
  | k + 1, t, ρ, G => match S.item t G with
    | none => .no
    | some x => match g x ρ with
      | none => .no
      | some ρ1 => match body ρ1 G with
        | .nx ρ2 G2 => loopS body g S k (t + 1) ρ2 G2
        | .ct ρ2 G2 => loopS body g S k (t + 1) ρ2 G2
        | .bk ρ2 G2 => .nx ρ2 G2
        | r => r
def forS (mi : Ev → M Src) (g : GD) (body : SD) : SD := thenS mi fun S => loopS body g S S.n 0
section
variable {X : Cx} {W : WX} {pos : Pos}
theorem thenS_midI {K : PySem.W.Frag} {hd as : List Addr} {ρ : Ev} {G : Gh} {σ : St} {H : Hp} {Z : Ends} {m : Ev → M Src} {f : Src → SD} (a : At K hd as ρ G σ H) (h : ResS K hd W as G H (thenS m f ρ G) Z) :
    ResI K hd W σ as G H (m ρ G) fun J H1 => ∃ as1 G1 S, Ext hd as G H as1 G1 H1 ∧ At K hd as1 ρ G1 σ H1 ∧ SrcOk K hd as1 G1 H1 S J ∧ ResS K hd W as1 G1 H1 (f S ρ G1) Z := by
  unfold thenS at h
  cases em : m ρ G with
  | ok S G' =>
    rw [em] at h
    exact fun as' H' J e w r => ⟨as', G', S, e, a.ext e w, r, h.pull e⟩
  | ex c d G' =>
    rw [em] at h
    exact fun as' H' dd e w t => h as' H' σ dd e (a.ext e w) t
  | no => rw [em] at h; exact h
theorem q_for {tg iter : Expr} {body : List Stmt} {mi : Ev → M Src} {g : GD} {js : List Nat} {sb : SD} (hp : PassesOwn (model X.prog X.w) X.A X.env X.xe) (hc : X.calm = true) (hi : QI X W tg iter mi) (hg : QG X tg js g) (hb : QSs X W body sb)
    (hs : ∀ x, foldedSetIterable iter X.env x = pure x := by intro _; rfl) : QS X W (.For tg iter body [] pos) (forS mi g sb) :=
  (ps_for hp hc hi hg hb hs).imp fun Z σ H ⟨hd, as, ρ, G, a, q⟩ => by
    refine ⟨hd, as, ρ, G, a, ?_⟩
    have t := thenS_midI a q
    cases em : mi ρ G with
    | no => rw [em] at t; exact t
    | ex c d G' => rw [em] at t; exact t
    | ok S0 G0 =>
      rw [em] at t
      intro as0 H0 J e0 w0 so
      obtain ⟨as1, G1, S, e1, a1, s1, q1⟩ := t as0 H0 J e0 w0 so
      refine ⟨fun i m σ H => m = S.n - i ∧ i ≤ S.n ∧ ∃ as2 ρ2 G2, Ext hd as1 G1 H0 as2 G2 H ∧ At X.K hd as2 ρ2 G2 σ H ∧ ResS X.K hd W as2 G2 H (loopS sb g S (S.n - i) i ρ2 G2) Z, ⟨_, rfl, Nat.zero_le _, as1, ρ, G1, Ext.refl _ _ _ _, a1, q1⟩, ?_⟩
      rintro i m σ' H' ⟨rfl, hi, as2, ρ2, G2, e2, a2, q2⟩
      by_cases hlt : i < S.n
      · obtain ⟨k, hk⟩ : ∃ k, S.n - i = k + 1 := ⟨S.n - i - 1, by omega⟩
        rw [hk] at q2
        unfold loopS at q2
        cases ei : S.item i G2 with
        | none => simp only [ei] at q2; exact q2.elim
        | some x =>
          simp only [ei] at q2
          obtain ⟨go, y⟩ := s1.goes i hd as2 G2 H' x e2.later a2.wd hlt ei
          refine .inr ⟨go, fun σ3 H3 => ∃ as3 ρ3 G3, Ext hd as1 G1 H0 as3 G3 H3 ∧ At X.K hd as3 ρ3 G3 σ3 H3 ∧ ResS X.K hd W as3 G3 H3 (loopS sb g S k (i + 1) ρ3 G3) Z, fun σ3 H3 ⟨as3, ρ3, G3, e3, a3, q3⟩ => ⟨S.n - (i + 1), by omega, rfl, hlt, as3, ρ3, G3, e3, a3, by rw [show S.n - (i + 1) = k by omega]; exact q3⟩, fun v H3 yl => ?_⟩
          obtain ⟨e3, w3, r3⟩ := y v H3 yl
          cases eg : g x ρ2 with
          | none => simp only [eg] at q2; exact q2.elim
          | some ρ3 =>
            simp only [eg] at q2
            refine ⟨hd, as2, ρ2, G2, x, a2.ext e3 w3, r3, ρ3, eg, fun σ4 a4 _ _ => ⟨hd, as2, ρ3, G2, a4, ?_⟩⟩
            cases eb : sb ρ3 G2 with
            | nx ρ5 G5 => simp only [eb] at q2; exact fun as5 H5 σ5 e5 a5 => ⟨as5, ρ5, G5, e2.trans (e3.trans e5), a5, q2.pull (e3.trans e5)⟩
            | ct ρ5 G5 => simp only [eb] at q2; exact fun as5 H5 σ5 e5 a5 => ⟨as5, ρ5, G5, e2.trans (e3.trans e5), a5, q2.pull (e3.trans e5)⟩
            | bk ρ5 G5 => simp only [eb] at q2; exact fun as5 H5 σ5 e5 a5 => q2 as5 H5 σ5 (e3.trans e5) a5
            | rt z G5 => simp only [eb] at q2; exact fun as5 H5 v5 e5 w5 r5 => q2 as5 H5 v5 (e3.trans e5) w5 r5
            | ex c d ρ5 G5 => simp only [eb] at q2; exact fun as5 H5 σ5 dd e5 a5 t5 => q2 as5 H5 σ5 dd (e3.trans e5) a5 t5
            | no => simp only [eb] at q2; exact q2.elim
      · have hi' : i = S.n := by omega
        subst hi'
        rw [Nat.sub_self] at q2
        unfold loopS at q2
        by_cases hf : S.fin G2 = true
        · rw [if_pos hf] at q2
          exact .inl ⟨s1.stops hd as2 G2 H' e2.later a2.wd hf, q2 as2 H' σ' (Ext.refl _ _ _ _) a2⟩
        · rw [if_neg hf] at q2; exact q2.elim
/-- while, by fuel -/
def whileL (t : Ev → M Bool) (body : SD) : Nat → SD
  | 0, _, _ => .no
  | k + 1, ρ, G => thenS t (fun b ρ G => if b = true then (match body ρ G with
      | .nx ρ2 G2 => whileL t body k ρ2 G2
      | .ct ρ2 G2 => whileL t body k ρ2 G2
      | .bk ρ2 G2 => .nx ρ2 G2
      | r => r) else .nx ρ G) ρ G
theorem q_while {c : Expr} {body : List Stmt} {t : Ev → M Bool} {sb : SD} (k : Nat) (hp : PassesOwn (model X.prog X.w) X.A X.env X.xe) (hc : QT X W c t) (hb : QSs X W body sb) : QS X W (.While c body [] pos) (whileL t sb k) :=
  (ps_while hp hc hb).imp fun Z σ H ⟨hd, as, ρ, G, a, q⟩ => by
    refine ⟨fun m σ H => ∃ as2 ρ2 G2, At X.K hd as2 ρ2 G2 σ H ∧ ResS X.K hd W as2 G2 H (whileL t sb m ρ2 G2) Z, ⟨k, as, ρ, G, a, q⟩, ?_⟩
    rintro m σ' H' ⟨as2, ρ2, G2, a2, q2⟩
    cases m with
    | zero => exact q2.elim
    | succ m =>
      unfold whileL at q2
      have t2 := thenS_midB a2 q2
      refine ⟨hd, as2, ρ2, G2, a2, t2.mono fun b H3 ⟨as3, G3, e3, a3, q3⟩ => ?_⟩
      cases b with
      | false => exact q3 as3 H3 σ' (Ext.refl _ _ _ _) a3
      | true =>
        simp only [if_true] at q3 ⊢
        refine ⟨fun σ4 H4 => ∃ as4 ρ4 G4, At X.K hd as4 ρ4 G4 σ4 H4 ∧ ResS X.K hd W as4 G4 H4 (whileL t sb m ρ4 G4) Z, fun σ4 H4 z => ⟨m, Nat.lt_succ_self _, z⟩, hd, as3, ρ2, G3, a3, ?_⟩
        cases eb : sb ρ2 G3 with
        | nx ρ5 G5 => simp only [eb] at q3; exact fun as5 H5 σ5 e5 a5 => ⟨as5, ρ5, G5, a5, q3.pull e5⟩
        | ct ρ5 G5 => simp only [eb] at q3; exact fun as5 H5 σ5 e5 a5 => ⟨as5, ρ5, G5, a5, q3.pull e5⟩
        | bk ρ5 G5 => simp only [eb] at q3; exact fun as5 H5 σ5 e5 a5 => q3 as5 H5 σ5 e5 a5
        | rt z G5 => simp only [eb] at q3; exact fun as5 H5 v5 e5 w5 r5 => q3 as5 H5 v5 e5 w5 r5
        | ex c d ρ5 G5 => simp only [eb] at q3; exact fun as5 H5 σ5 dd e5 a5 t5 => q3 as5 H5 σ5 dd e5 a5 t5
        | no => simp only [eb] at q3; exact q3.elim
end
end DL
end L2

/-! DL12: sources: values, ranges, enumerate, zip -/
namespace PySem
set_option maxHeartbeats 1000000 in
theorem dl_enumNew {v : Value} {o : Obj} {Y : Heap → Prop} (B : Begins v o Y) :
    Meets (Builtin.«enumerate.__new__» ⟨[.type "enumerate", v], []⟩) (fun _ R s => Y s.heap ∧
      R (.ok (.ret (.ref (s.heap.push o).objs.size))) { s with heap := (s.heap.push o).push { cls := .type "enumerate", data := .fields #[.none, .bool false, .ref s.heap.objs.size, rawInt 0, .none, .none] } }) :=
  .of_wp fun prog w A R s ⟨yh, h⟩ => by
    obtain ⟨hp, ge, dr, tk, ost⟩ := s
    have sube := sub_enumerate
    have qi : ∀ {A' : Around} {E : Value → Shared → Prop} {Q : Value → Shared → Prop}, Q (.ref hp.objs.size) ⟨hp.push o, ge, dr, tk, ost⟩ → wpAny (model prog w) A' (pyIter v) Q E ⟨hp, ge, dr, tk, ost⟩ :=
      fun q => B.iter prog w _ _ ⟨hp, ge, dr, tk, ost⟩ _ yh q
    wp_walk using qi
    refine wpAny_stack_any fun sta => wpAny_pure ?_
    split
    · rename_i cc _ _ _ _ _
      cases (cc == Value.type "enumerate")
      · wp_walk using qi
        exact ⟨_, rfl, h⟩
      · wp_walk using qi
        exact ⟨_, rfl, h⟩
    · wp_walk using qi
      exact ⟨_, rfl, h⟩
theorem dl_callEnum {prog : Program} {w : World} {A : Around} {E : Value → Shared → Prop} {s : Shared} {v : Value} {o : Obj} {Y : Heap → Prop} {Q : Value → Shared → Prop} (B : Begins v o Y) (hy : Y s.heap)
    (h : ∀ h', IsEnum h' (s.heap.objs.size + 1) s.heap.objs.size 0 .none → h'.get? s.heap.objs.size = some o → (∀ b u, s.heap.get? b = some u → h'.get? b = some u) → Q (.ref (s.heap.objs.size + 1)) { s with heap := h' }) :
    wpAny (model prog w) A (call (.type "enumerate") [v]) Q E s := by
  refine callType_new F.called_enumerate (by decide) (F.typeCall_enumerate_1 _) (F.newCall_enumerate_1 _) (fun z => F.args_object_init_2 z _) F.entry_enumerate_new (dl_enumNew B) ⟨hy, ?_⟩
  have hsz : (s.heap.push o).objs.size = s.heap.objs.size + 1 := Heap.size_push ..
  show _ ∧ _
  rw [hsz]
  have hen : IsEnum ((s.heap.push o).push { cls := .type "enumerate", data := .fields #[.none, .bool false, .ref s.heap.objs.size, rawInt 0, .none, .none] }) (s.heap.objs.size + 1) s.heap.objs.size 0 .none := by
    have t := Heap.get?_push_size (s.heap.push o) (o := { cls := .type "enumerate", data := .fields #[.none, .bool false, .ref s.heap.objs.size, rawInt 0, .none, .none] }) rfl
    rw [hsz] at t
    exact t
  exact ⟨⟨_, hen, rfl⟩, h _ hen (Heap.get?_push_of_some _ (Heap.get?_push_size _ B.free)) fun b u z => Heap.get?_push_of_some _ (Heap.get?_push_of_some _ z)⟩
end PySem
namespace L2
namespace DL
open PySem PySem.Spec PyProof.Rows
variable [HasW]
/-- enumerate(tuple) -/
def IteT (K : PySem.W.Frag) (a : Addr) : It :=
  ⟨fun i H => ∃ (xs : List V) (x : V), SqT K H a xs ∧ xs[i]? = some x, fun i H v H' => ∃ T x, v = .ref T ∧ H T = none ∧ H' = upd H T (.tup [.int (i : Nat), x]) ∧ ∀ xs, SqT K H a xs → xs[i]? = some x, fun i H => ∃ xs : List V, SqT K H a xs ∧ xs.length = i⟩
theorem turn_enumT {P : Program} {w : World} {K : PySem.W.Frag} {elts : List Expr} {kk : Nat} {tpos : Pos} (a e it : Addr) :
    Turn P w K (.Tuple elts kk tpos) (IteT K a) [e, it] e (fun i h => (∃ old, IsEnum h e it ((i : Nat) : Int) old) ∧ h.IsTupleIter it a i ∧ e ≠ it ∧ e ≠ a ∧ a ≠ it) where
  mem := by simp
  obj := fun i h st b hb => by
    obtain ⟨⟨old, he⟩, ⟨oi, ho, _, hd⟩, _⟩ := st
    rcases (show b = e ∨ b = it by simpa using hb) with z | z
    · subst z; exact ⟨_, he, fun v q => nomatch q⟩
    · subst z; exact ⟨oi, ho, fun v q => by rw [hd] at q; cases q⟩
  keep := fun i h h' ⟨⟨old, he⟩, hi, rest⟩ k => ⟨⟨old, k e (by simp) _ he⟩, hi.at fun o q => k it (by simp) o q, rest⟩
  item := by
    intro X hP hw hK hc i pins s σ H E I hf ⟨⟨old, he⟩, hit, n1, n2, n3⟩ ⟨xs, x, hq, hx⟩
    subst hP hw hK
    obtain ⟨its, rv, pt, _⟩ := I.tuple hq
    obtain ⟨u, hu, ru⟩ := rv.get hx
    have hel : e < s.heap.objs.size := Heap.lt_size he
    have hil : it < s.heap.objs.size := by obtain ⟨_, q, _⟩ := hit; exact Heap.lt_size q
    have hii : i < its.toArray.size := by
      have := (List.getElem?_eq_some_iff.mp hu).1
      simpa using this
    refine wpAny_pyNext_enum_itemC (Draws.tuple (A := X.A.in1) (I.ok.hd hc) it a n3 its.toArray) he ⟨hit, pt⟩ hii n1 (by simp [n1, n2]) fun z h' tk hP' ho st' hT hsz hk => ?_
    have hz : z = u := by
      have q1 : its.toArray[i]? = some u := by simpa using hu
      rw [q1] at hP'; exact (Option.some.inj hP').symm
    subst hz
    refine ⟨_, rfl, wpAny_letOwnedTupleGo_enum (s := { s with heap := h', toks := tk + 1 }) ho fun h2 he2 sb => ?_⟩
    have hT2 : h2.get? s.heap.objs.size = some { cls := .type "tuple", data := .seq #[.int i tk, z] } := (sb.2 _ (Nat.ne_of_gt hel)).trans hT
    have I1 : Inv X pins σ (upd H s.heap.objs.size (.tup [.int (i : Nat), x])) { s with heap := h2, toks := tk + 1 } :=
      I.turnedNew (ch := [e, it]) (fun b ob hb q => (sb.2 b (fun y => hb (by simp [y]))).trans (hk b ob (fun y => hb (by simp [y])) (fun y => hb (by simp [y])) q)) hf (Nat.le_refl _) ⟨by show 2 ≤ sizeLine; decide, [.int i tk, z], .cons ⟨_, rfl⟩ (.cons ru .nil), ⟨_, hT2, rfl, _, rfl⟩⟩
    refine ⟨.ref s.heap.objs.size, _, I1, rfl, ⟨_, x, rfl, I.hok.fresh (Nat.le_refl _), rfl, fun ys hy => by rw [I.tuple_inj hy hq]; exact hx⟩, ⟨⟨z, ?_⟩, st'.1.at fun o q => (sb.2 it (Ne.symm n1)).trans q, n1, n2, n3⟩, fun b hb => ?_⟩
    · rw [show ((i + 1 : Nat) : Int) = (i : Int) + 1 by omega]; exact he2
    · have hb' : b < s.heap.objs.size := by
        rcases (show b = e ∨ b = it by simpa using hb) with y | y
        · subst y; exact hel
        · subst y; exact hil
      rw [upd_ne (Nat.ne_of_lt hb')]
      exact (hf b hb).1
  done := by
    intro X hP hw hK hc i pins s σ H E I hf ⟨⟨old, he⟩, hit, n1, n2, n3⟩ ⟨xs, hq, hx⟩
    subst hP hw hK
    obtain ⟨its, rv, pt, _⟩ := I.tuple hq
    obtain ⟨f0, f1, f2, f3, f4, f5⟩ := hf it (by simp)
    have hl := rv.length
    have hsz : i = its.toArray.size := by simp; omega
    subst hsz
    exact wpAny_pyNext_enum_endD (Draws.tuple (A := X.A.in1) (I.ok.hd hc) it a n3 its.toArray) he ⟨hit, pt⟩ fun h' eb => ⟨rfl, I.turned (t' := s.toks) (fun b o hb q => eb b o hb q) f0 f1 f3 f4 f5⟩
  self := fun A i s Q E ⟨⟨_, he⟩, _⟩ h => wpAny_pyIter_enum he h
/-- enumerate of a list or of a tuple, by what the argument turns out to be -/
theorem pi_enumA {X : Cx} {e : Expr} {ta : TA} {p pos tpos : Pos} {elts : List Expr} {kk : Nat} (hg : Gl X "enumerate") (hm : X.mg "enumerate" = none) (ha : PA X [e] ta) (hs : starEach [e] X.env = [(false, eval e X.env)] := by rfl) :
    PI X (.Tuple elts kk tpos) (.Call (.Name "enumerate" p) [e] [] pos) (fun σ H R => ta σ H fun vs H1 => ∃ a xs, vs = [.ref a] ∧ ((SqL X.K H1 a xs ∧ R (Ite X.K a) H1) ∨ (SqT X.K H1 a xs ∧ R (IteT X.K a) H1))) := by
  refine ⟨fun pins s σ H R I h => ?_⟩
  refine Call_ (ld_blt I hg hm boot_enumerate (PyProof.Rows.callWith_type1 (thn (ha.run pos pins s σ H _ I h) fun us s1 ⟨vs, H1, I1, r1, a, xs, ex, q1⟩ => ?_) hs rfl))
  subst ex
  cases r1 with
  | cons r rr =>
    cases rr
    cases r
    have fpo : ∀ b, b ∈ [s1.heap.objs.size + 1, s1.heap.objs.size] → FpOk X pins H1 b := fun b hb => by
      have hle : s1.heap.objs.size ≤ b := by
        rcases (show b = s1.heap.objs.size + 1 ∨ b = s1.heap.objs.size by simpa using hb) with z | z <;> omega
      exact I1.fpOk hle (I1.hok.fresh hle)
    rcases q1 with ⟨hq, q⟩ | ⟨hq, q⟩
    · obtain ⟨its, rv, pl, _⟩ := I1.list hq
      refine call_enumerate_list pl.isList fun h' he hit hsz hk => wpAny_pyIter_enum he ?_
      exact ⟨_, _, _, _, H1, rfl, I1.kept (t' := s1.toks) hk, turn_enum a (s1.heap.objs.size + 1) s1.heap.objs.size, ⟨⟨.none, he⟩, hit, Nat.succ_ne_self _⟩, fpo, q⟩
    · obtain ⟨its, rv, pt, _⟩ := I1.tuple hq
      have hal : a < s1.heap.objs.size := by obtain ⟨_, z, _⟩ := id pt; exact Heap.lt_size z
      refine dl_callEnum (begins_tuple a its.toArray) pt fun h' he ho hk => wpAny_pyIter_enum he ?_
      exact ⟨_, _, _, _, H1, rfl, I1.kept (t' := s1.toks) hk, turn_enumT a (s1.heap.objs.size + 1) s1.heap.objs.size, ⟨⟨.none, he⟩, ⟨_, ho, rfl, rfl⟩, Nat.succ_ne_self _, Nat.ne_of_gt (Nat.lt_succ_of_lt hal), Nat.ne_of_lt hal⟩, fpo, q⟩
end DL
end L2

/-! DL13: the sources' meanings -/
namespace L2
namespace DL
open PySem PySem.Spec PyProof.Rows
variable [HasW]
/-- list (true) or tuple -/
def seqKind (x : Vl) (G : Gh) : Option (Bool × Nat) := match x with
  | .dat (.lst l) => some (true, l.length)
  | .dat (.tup l) => some (false, l.length)
  | .ref i => match G[i]? with
    | some (.lst l) => some (true, l.length)
    | _ => none
  | _ => none
def seqAt (x : Vl) (n t : Nat) (G : Gh) : Option Vl := match x with
  | .dat (.lst l) => if l.length = n then l[t]?.map .dat else none
  | .dat (.tup l) => if l.length = n then l[t]?.map .dat else none
  | .ref i => match G[i]? with
    | some (.lst l) => if l.length = n then l[t]? else none
    | _ => none
  | _ => none
def seqFin (x : Vl) (n : Nat) (G : Gh) : Bool := match seqKind x G with
  | some (_, m) => decide (m = n)
  | none => false
theorem seqAt_fin {x : Vl} {n t : Nat} {G : Gh} {y : Vl} (h : seqAt x n t G = some y) : seqFin x n G = true := by
  unfold seqAt at h
  unfold seqFin seqKind
  split at h
  · split at h
    · simpa
    · cases h
  · split at h
    · simpa
    · cases h
  · split at h
    · rename_i e
      split at h
      · simp [e]; assumption
      · cases h
    · cases h
  · cases h
def datS (f : Nat → Gh → Option Vl) (t : Nat) (G : Gh) : Option D := match f t G with
  | some (.dat d) => some d
  | _ => none
section
variable {K : PySem.W.Frag} {hd as0 as : List Addr} {G0 G : Gh} {H0 H : Hp}
theorem RelDs.at {F : Hp} {l : List D} {xs : List V} {t : Nat} {y : Vl} (r : RelDs K F l xs) (h : l[t]?.map Vl.dat = some y) : ∃ u, xs[t]? = some u ∧ RelVl K as F y u := by
  obtain ⟨d, h1, rfl⟩ := Option.map_eq_some_iff.mp h
  exact r.get h1
theorem seq_lst {x : Vl} {v : V} {n m : Nat} (r : RelVl K as0 (Fz hd as0 G0 H0) x v) (hk : seqKind x G0 = some (true, m)) : ∃ a, v = .ref a ∧ ∀ h as G H, Later hd as0 G0 H0 h as G H → Wd K h as G H → seqFin x n G = true →
    ∃ xs, SqL K H a xs ∧ xs.length = n ∧ ∀ t y, seqAt x n t G = some y → ∃ u, xs[t]? = some u ∧ RelVl K as (Fz h as G H) y u := by
  unfold seqKind at hk
  split at hk
  · rename_i l
    cases r with
    | @lst _ a xs h1 h2 =>
      refine ⟨a, rfl, fun h as G H e w hf => ?_⟩
      have hl : l.length = n := by unfold seqFin seqKind at hf; simpa using hf
      refine ⟨xs, .inl (Fz.rd (Rd.mono e.keep h1)), by rw [← h2.length]; exact hl, fun t y hy => ?_⟩
      simp only [seqAt, if_pos hl] at hy
      exact (h2.mono e.keep).at hy
  · cases hk
  · rename_i i
    obtain ⟨a, ha, rfl⟩ := r
    refine ⟨a, rfl, fun h as G H e w hf => ?_⟩
    unfold seqFin seqKind at hf
    cases eg : G[i]? with
    | none => simp [eg] at hf
    | some go =>
      cases go with
      | lst l =>
        have hl : l.length = n := by simpa [eg] using hf
        obtain ⟨xs, h1, h2⟩ := w.at eg (pre_get e.pre ha)
        refine ⟨xs, .inl (.inl h1), by rw [← Paired.length h2]; exact hl, fun t y hy => ?_⟩
        simp only [seqAt, eg, if_pos hl] at hy
        exact paired_get h2 hy
      | _ => simp [eg] at hf
  · cases hk
theorem seq_tup {x : Vl} {v : V} {n m : Nat} (r : RelVl K as0 (Fz hd as0 G0 H0) x v) (hk : seqKind x G0 = some (false, m)) : ∃ a, v = .ref a ∧ ∀ h as G H, Later hd as0 G0 H0 h as G H → Wd K h as G H → seqFin x n G = true →
    ∃ xs, SqT K H a xs ∧ xs.length = n ∧ ∀ t y, seqAt x n t G = some y → ∃ u, xs[t]? = some u ∧ RelVl K as (Fz h as G H) y u := by
  unfold seqKind at hk
  split at hk
  · cases hk
  · rename_i l
    cases r with
    | @tup _ a xs h1 h2 =>
      refine ⟨a, rfl, fun h as G H e w hf => ?_⟩
      have hl : l.length = n := by unfold seqFin seqKind at hf; simpa using hf
      refine ⟨xs, Fz.sqT (SqT.mono e.keep h1), by rw [← h2.length]; exact hl, fun t y hy => ?_⟩
      simp only [seqAt, if_pos hl] at hy
      exact (h2.mono e.keep).at hy
  · split at hk <;> cases hk
  · cases hk
theorem seq_fin {x : Vl} {b : Bool} {m : Nat} (hk : seqKind x G0 = some (b, m)) : seqFin x m G0 = true := by unfold seqFin; rw [hk]; simp
def sqS (x : Vl) (n : Nat) : Src := ⟨n, seqAt x n, seqFin x n⟩
def strS (z : Str) : Src := ⟨z.cps.size, fun t _ => z.cps[t]?.map fun c => .dat (.str ⟨#[c]⟩), fun _ => true⟩
def rngS (lo : Int) (n : Nat) : Src := ⟨n, fun t _ => some (.dat (.int (lo + t))), fun _ => true⟩
def enuS (x : Vl) (n : Nat) : Src := ⟨n, fun t G => (datS (seqAt x n) t G).map fun d => .dat (.tup [.int t, d]), seqFin x n⟩
def zipS (x y : Vl) (n m : Nat) : Src := ⟨min n m, fun t G => match datS (seqAt x n) t G, datS (seqAt y m) t G with
  | some d, some e => some (.dat (.tup [d, e]))
  | _, _ => none, fun G => seqFin x n G && seqFin y m G⟩
theorem datS_at {f : Nat → Gh → Option Vl} {t : Nat} {G : Gh} {d : D} (h : datS f t G = some d) : f t G = some (.dat d) := by
  unfold datS at h
  split at h
  · rename_i e; cases h; exact e
  · cases h
theorem srcL {x : Vl} {v : V} {a : Addr} {m : Nat} (hv : v = .ref a) (r : RelVl K as0 (Fz hd as0 G0 H0) x v) (hk : seqKind x G0 = some (true, m)) : SrcOk K hd as0 G0 H0 (sqS x m) (Itl K a) := by
  obtain ⟨a', h1, h2⟩ := seq_lst (n := m) r hk
  rw [hv] at h1; cases h1
  refine ⟨fun t h as G H y e w hlt hy => ?_, fun h as G H e w hf => ?_⟩
  · obtain ⟨xs, q1, q2, q3⟩ := h2 h as G H e w (seqAt_fin hy)
    obtain ⟨u, q4, q5⟩ := q3 t y hy
    refine ⟨⟨xs, u, q1, q4⟩, fun v' H' ⟨e', yl⟩ => ?_⟩
    have := yl xs q1
    rw [q4] at this; cases this; subst e'
    exact ⟨Ext.refl _ _ _ _, w, q5⟩
  · obtain ⟨xs, q1, q2, _⟩ := h2 h as G H e w hf
    exact ⟨xs, q1, Nat.le_of_eq q2⟩
theorem srcT {x : Vl} {v : V} {a : Addr} {m : Nat} (hv : v = .ref a) (r : RelVl K as0 (Fz hd as0 G0 H0) x v) (hk : seqKind x G0 = some (false, m)) : SrcOk K hd as0 G0 H0 (sqS x m) (Itt K a) := by
  obtain ⟨a', h1, h2⟩ := seq_tup (n := m) r hk
  rw [hv] at h1; cases h1
  refine ⟨fun t h as G H y e w hlt hy => ?_, fun h as G H e w hf => ?_⟩
  · obtain ⟨xs, q1, q2, q3⟩ := h2 h as G H e w (seqAt_fin hy)
    obtain ⟨u, q4, q5⟩ := q3 t y hy
    refine ⟨⟨xs, u, q1, q4⟩, fun v' H' ⟨e', yl⟩ => ?_⟩
    have := yl xs q1
    rw [q4] at this; cases this; subst e'
    exact ⟨Ext.refl _ _ _ _, w, q5⟩
  · obtain ⟨xs, q1, q2, _⟩ := h2 h as G H e w hf
    exact ⟨xs, q1, Nat.le_of_eq q2⟩
theorem srcStr (z : Str) : SrcOk K hd as0 G0 H0 (strS z) (Its z) := by
  refine ⟨fun t h as G H y e w hlt hy => ⟨hlt, fun v' H' ⟨e', c, h1, h2⟩ => ?_⟩, fun _ _ _ _ _ _ _ => Nat.le_refl _⟩
  subst e' h2
  have hy' : z.cps[t]?.map (fun c => Vl.dat (.str ⟨#[c]⟩)) = some y := hy
  rw [h1] at hy'
  cases hy'
  exact ⟨Ext.refl _ _ _ _, w, RelD.str _⟩
theorem srcR (lo : Int) (n : Nat) : SrcOk K hd as0 G0 H0 (rngS lo n) (Itr lo n) := by
  refine ⟨fun t h as G H y e w hlt hy => ⟨hlt, fun v' H' ⟨e', h2⟩ => ?_⟩, fun _ _ _ _ _ _ _ => Nat.le_refl _⟩
  subst e' h2
  cases hy
  exact ⟨Ext.refl _ _ _ _, w, RelD.int _⟩
theorem pairNew {x y : V} {d e : D} {T : Addr} (w : Wd K hd as G H) (h : H T = none) (r1 : RelD K (Fz hd as G H) d x) (r2 : RelD K (Fz hd as G H) e y) :
    Ext hd as G H as G (upd H T (.tup [x, y])) ∧ Wd K hd as G (upd H T (.tup [x, y])) ∧ RelVl K as (Fz hd as G (upd H T (.tup [x, y]))) (.dat (.tup [d, e])) (.ref T) := by
  obtain ⟨w2, e2, f2⟩ := w.new (.tup [x, y]) h
  exact ⟨e2, w2, RelD.tup (SqT.of f2) (.cons (r1.mono e2.keep) (.cons (r2.mono e2.keep) .nil))⟩
theorem srcE {x : Vl} {v : V} {a : Addr} {m : Nat} (hv : v = .ref a) (r : RelVl K as0 (Fz hd as0 G0 H0) x v) (hk : seqKind x G0 = some (true, m)) : SrcOk K hd as0 G0 H0 (enuS x m) (Ite K a) := by
  obtain ⟨a', h1, h2⟩ := seq_lst (n := m) r hk
  rw [hv] at h1; cases h1
  refine ⟨fun t h as G H y e w hlt hy => ?_, fun h as G H e w hf => ?_⟩
  · obtain ⟨d, hd', rfl⟩ := Option.map_eq_some_iff.mp hy
    have hy := datS_at hd'
    obtain ⟨xs, q1, q2, q3⟩ := h2 h as G H e w (seqAt_fin hy)
    obtain ⟨u, q4, q5⟩ := q3 t _ hy
    refine ⟨⟨xs, u, q1, q4⟩, fun v' H' ⟨T, x', e1, e2, e3, yl⟩ => ?_⟩
    have := yl xs q1
    rw [q4] at this; cases this; subst e1 e3
    exact pairNew w e2 (RelD.int _) q5
  · obtain ⟨xs, q1, q2, _⟩ := h2 h as G H e w hf
    exact ⟨xs, q1, Nat.le_of_eq q2⟩
theorem srcET {x : Vl} {v : V} {a : Addr} {m : Nat} (hv : v = .ref a) (r : RelVl K as0 (Fz hd as0 G0 H0) x v) (hk : seqKind x G0 = some (false, m)) : SrcOk K hd as0 G0 H0 (enuS x m) (IteT K a) := by
  obtain ⟨a', h1, h2⟩ := seq_tup (n := m) r hk
  rw [hv] at h1; cases h1
  refine ⟨fun t h as G H y e w hlt hy => ?_, fun h as G H e w hf => ?_⟩
  · obtain ⟨d, hd', rfl⟩ := Option.map_eq_some_iff.mp hy
    have hy := datS_at hd'
    obtain ⟨xs, q1, q2, q3⟩ := h2 h as G H e w (seqAt_fin hy)
    obtain ⟨u, q4, q5⟩ := q3 t _ hy
    refine ⟨⟨xs, u, q1, q4⟩, fun v' H' ⟨T, x', e1, e2, e3, yl⟩ => ?_⟩
    have := yl xs q1
    rw [q4] at this; cases this; subst e1 e3
    exact pairNew w e2 (RelD.int _) q5
  · obtain ⟨xs, q1, q2, _⟩ := h2 h as G H e w hf
    exact ⟨xs, q1, q2⟩
theorem zipS_at {x y z : Vl} {n m t : Nat} {G : Gh} (h : (zipS x y n m).item t G = some z) : ∃ d e, z = .dat (.tup [d, e]) ∧ seqAt x n t G = some (.dat d) ∧ seqAt y m t G = some (.dat e) := by
  unfold zipS at h
  simp only at h
  split at h
  · rename_i d e h1 h2
    cases h
    exact ⟨d, e, rfl, datS_at h1, datS_at h2⟩
  · cases h
theorem srcZ {x y : Vl} {v u : V} {a b : Addr} {n m : Nat} (hv : v = .ref a) (hu : u = .ref b) (r : RelVl K as0 (Fz hd as0 G0 H0) x v) (r' : RelVl K as0 (Fz hd as0 G0 H0) y u) (hk : seqKind x G0 = some (true, n)) (hk' : seqKind y G0 = some (true, m)) :
    SrcOk K hd as0 G0 H0 (zipS x y n m) (Itz K a b) := by
  obtain ⟨a', h1, h2⟩ := seq_lst (n := n) r hk
  obtain ⟨b', g1, g2⟩ := seq_lst (n := m) r' hk'
  rw [hv] at h1; cases h1
  rw [hu] at g1; cases g1
  refine ⟨fun t h as G H z e w hlt hz => ?_, fun h as G H e w hf => ?_⟩
  · obtain ⟨d, e', rfl, hx, hy⟩ := zipS_at hz
    obtain ⟨xs, q1, q2, q3⟩ := h2 h as G H e w (seqAt_fin hx)
    obtain ⟨ux, q4, q5⟩ := q3 t _ hx
    obtain ⟨ys, p1, p2, p3⟩ := g2 h as G H e w (seqAt_fin hy)
    obtain ⟨uy, p4, p5⟩ := p3 t _ hy
    refine ⟨⟨xs, ys, ux, uy, q1, p1, q4, p4⟩, fun v' H' ⟨T, x', y', e1, e2, e3, yl, yl'⟩ => ?_⟩
    have l1 := yl xs q1
    have l2 := yl' ys p1
    rw [q4] at l1; cases l1
    rw [p4] at l2; cases l2
    subst e1 e3
    exact pairNew w e2 q5 p5
  · have hf' := Bool.and_eq_true_iff.mp hf
    obtain ⟨xs, q1, q2, _⟩ := h2 h as G H e w hf'.1
    obtain ⟨ys, p1, p2, _⟩ := g2 h as G H e w hf'.2
    exact ⟨xs, ys, q1, p1, by show xs.length ≤ min n m ∨ ys.length ≤ min n m; omega⟩
theorem srcZT {x y : Vl} {v u : V} {a b : Addr} {n m : Nat} (hv : v = .ref a) (hu : u = .ref b) (r : RelVl K as0 (Fz hd as0 G0 H0) x v) (r' : RelVl K as0 (Fz hd as0 G0 H0) y u) (hk : seqKind x G0 = some (false, n)) (hk' : seqKind y G0 = some (false, m)) :
    SrcOk K hd as0 G0 H0 (zipS x y n m) (RZ.ItzT K a b) := by
  obtain ⟨a', h1, h2⟩ := seq_tup (n := n) r hk
  obtain ⟨b', g1, g2⟩ := seq_tup (n := m) r' hk'
  rw [hv] at h1; cases h1
  rw [hu] at g1; cases g1
  refine ⟨fun t h as G H z e w hlt hz => ?_, fun h as G H e w hf => ?_⟩
  · obtain ⟨d, e', rfl, hx, hy⟩ := zipS_at hz
    obtain ⟨xs, q1, q2, q3⟩ := h2 h as G H e w (seqAt_fin hx)
    obtain ⟨ux, q4, q5⟩ := q3 t _ hx
    obtain ⟨ys, p1, p2, p3⟩ := g2 h as G H e w (seqAt_fin hy)
    obtain ⟨uy, p4, p5⟩ := p3 t _ hy
    refine ⟨⟨xs, ys, ux, uy, q1, p1, q4, p4⟩, fun v' H' ⟨T, x', y', e1, e2, e3, yl, yl'⟩ => ?_⟩
    have l1 := yl xs q1
    have l2 := yl' ys p1
    rw [q4] at l1; cases l1
    rw [p4] at l2; cases l2
    subst e1 e3
    exact pairNew w e2 q5 p5
  · have hf' := Bool.and_eq_true_iff.mp hf
    obtain ⟨xs, q1, q2, _⟩ := h2 h as G H e w hf'.1
    obtain ⟨ys, p1, p2, _⟩ := g2 h as G H e w hf'.2
    exact ⟨xs, ys, q1, p1, by show xs.length ≤ min n m ∨ ys.length ≤ min n m; omega⟩
end
/-! ### the rules -/
def srcV (x : Vl) : M Src := fun G => match x with
  | .dat (.str z) => .ok (strS z) G
  | _ => match seqKind x G with
    | some (_, n) => .ok (sqS x n) G
    | none => .no
def valS (m : Ev → M Vl) : Ev → M Src := fun ρ => andThen (m ρ) srcV
def rng1S (m : Ev → M (List Vl)) : Ev → M Src := fun ρ => andThen (m ρ) fun xs => match xs with
  | [.dat (.int j)] => if -(2 ^ 62) ≤ j ∧ j < 2 ^ 62 then ret (rngS 0 j.toNat) else stuck
  | _ => stuck
def rng2S (m : Ev → M (List Vl)) : Ev → M Src := fun ρ => andThen (m ρ) fun xs => match xs with
  | [.dat (.int i), .dat (.int j)] => if -(2 ^ 62) ≤ i ∧ i < 2 ^ 62 ∧ -(2 ^ 62) ≤ j ∧ j < 2 ^ 62 then ret (rngS i (j - i).toNat) else stuck
  | _ => stuck
def enumS (m : Ev → M (List Vl)) : Ev → M Src := fun ρ => andThen (m ρ) fun xs G => match xs with
  | [x] => (match seqKind x G with
    | some (_, n) => .ok (enuS x n) G
    | none => .no)
  | _ => .no
def zip2S (m : Ev → M (List Vl)) : Ev → M Src := fun ρ => andThen (m ρ) fun xs G => match xs with
  | [x, y] => (match seqKind x G, seqKind y G with
    | some (b, n), some (c, k) => if b = c then .ok (zipS x y n k) G else .no
    | _, _ => .no)
  | _ => .no
section
variable {X : Cx} {W : WX} {pos : Pos}
theorem ResI.bind {K : PySem.W.Frag} {hd : List Addr} {σ : St} {as : List Addr} {G : Gh} {H : Hp} {m : M Vl} {f : Vl → M Src} {R : It → Hp → Prop} (h : ResI K hd W σ as G H (andThen m f G) R) :
    Res K hd W σ as G H (m G) fun v H1 => ∃ as1 G1 x, Ext hd as G H as1 G1 H1 ∧ Wd K hd as1 G1 H1 ∧ RelVl K as1 (Fz hd as1 G1 H1) x v ∧ m G = .ok x G1 ∧ ResI K hd W σ as G H (f x G1) R := by
  unfold andThen at h
  cases e : m G with
  | ok x G' =>
    rw [e] at h
    exact fun as' H' v ee w r => ⟨as', G', x, ee, w, r, rfl, h⟩
  | ex c d G' => rw [e] at h; exact h
  | no => rw [e] at h; exact h
theorem ResI.bindA {K : PySem.W.Frag} {hd : List Addr} {σ : St} {as : List Addr} {G : Gh} {H : Hp} {m : M (List Vl)} {f : List Vl → M Src} {R : It → Hp → Prop} (h : ResI K hd W σ as G H (andThen m f G) R) :
    ResA K hd W σ as G H (m G) fun v H1 => ∃ as1 G1 x, Ext hd as G H as1 G1 H1 ∧ Wd K hd as1 G1 H1 ∧ RelVls K as1 (Fz hd as1 G1 H1) x v ∧ m G = .ok x G1 ∧ ResI K hd W σ as G H (f x G1) R := by
  unfold andThen at h
  cases e : m G with
  | ok x G' =>
    rw [e] at h
    exact fun as' H' v ee w r => ⟨as', G', x, ee, w, r, rfl, h⟩
  | ex c d G' => rw [e] at h; exact h
  | no => rw [e] at h; exact h
theorem qi_val {tg e : Expr} {m : Ev → M Vl} (h : QE X W e m) : QI X W tg e (valS m) := by
  refine ⟨fun pins s σ H R I ⟨hd, as, ρ, G, a, q⟩ => ?_⟩
  have t := ResI.bind q
  cases em : m ρ G with
  | no => rw [em] at t; exact t.elim
  | ex c d G' => rw [em] at t; exact (pi_tup h).run pins s σ H R I ⟨hd, as, ρ, G, a, by rw [em]; exact t⟩
  | ok x G' =>
    rw [em] at t
    have q2 : ResI X.K hd W σ as G H (srcV x G') R := by unfold valS andThen at q; rw [em] at q; exact q
    unfold srcV at q2
    split at q2
    · rename_i z
      refine (pi_str h).run pins s σ H R I ⟨hd, as, ρ, G, a, ?_⟩
      rw [em]
      intro as' H' v ee w r
      cases r
      exact ⟨z, rfl, q2 as' H' _ ee w (srcStr z)⟩
    · cases ek : seqKind x G' with
      | none => rw [ek] at q2; exact q2.elim
      | some p =>
        obtain ⟨b, n⟩ := p
        rw [ek] at q2
        cases b with
        | true =>
          refine (pi_list h).run pins s σ H R I ⟨hd, as, ρ, G, a, ?_⟩
          rw [em]
          intro as' H' v ee w r
          obtain ⟨p, e1, h2⟩ := seq_lst (n := n) r ek
          obtain ⟨xs, h3, _⟩ := h2 hd as' G' H' (Ext.refl _ _ _ _).later w (seq_fin ek)
          exact ⟨p, e1, ⟨xs, h3⟩, q2 as' H' _ ee w (srcL e1 r ek)⟩
        | false =>
          refine (pi_tup h).run pins s σ H R I ⟨hd, as, ρ, G, a, ?_⟩
          rw [em]
          intro as' H' v ee w r
          obtain ⟨p, e1, h2⟩ := seq_tup (n := n) r ek
          obtain ⟨xs, h3, _⟩ := h2 hd as' G' H' (Ext.refl _ _ _ _).later w (seq_fin ek)
          exact ⟨p, e1, ⟨xs, h3⟩, q2 as' H' _ ee w (srcT e1 r ek)⟩
theorem qi_range1 {tg a : Expr} {m : Ev → M (List Vl)} {p : Pos} (hg : Gl X "range") (hm : X.mg "range" = none) (ha : QA X W [a] m) (hs : starEach [a] X.env = [(false, eval a X.env)] := by rfl) : QI X W tg (.Call (.Name "range" p) [a] [] pos) (rng1S m) :=
  (pi_range1 hg hm ha hs).imp fun σ H R ⟨hd, as, ρ, G, a, q⟩ => ⟨hd, as, ρ, G, a, (ResI.bindA q).mono fun vs H1 ⟨as1, G1, xs, e1, w1, r1, _, q1⟩ => by
    split at q1
    · rename_i j _
      split at q1
      · rename_i hb
        cases r1 with
        | cons ra rb =>
          cases rb
          cases ra
          exact ⟨j, rfl, hb.1, hb.2, q1 as1 H1 _ e1 w1 (srcR 0 _)⟩
      · exact q1.elim
    · exact q1.elim⟩
theorem qi_range2 {tg a b : Expr} {m : Ev → M (List Vl)} {p : Pos} (hg : Gl X "range") (hm : X.mg "range" = none) (ha : QA X W [a, b] m) (hs : starEach [a, b] X.env = [(false, eval a X.env), (false, eval b X.env)] := by rfl) (hs2 : starEach [b] X.env = [(false, eval b X.env)] := by rfl) :
    QI X W tg (.Call (.Name "range" p) [a, b] [] pos) (rng2S m) :=
  (pi_range2 hg hm ha hs hs2).imp fun σ H R ⟨hd, as, ρ, G, a, q⟩ => ⟨hd, as, ρ, G, a, (ResI.bindA q).mono fun vs H1 ⟨as1, G1, xs, e1, w1, r1, _, q1⟩ => by
    split at q1
    · rename_i i j _
      split at q1
      · rename_i hb
        cases r1 with
        | cons ra rb =>
          cases rb with
          | cons rb rc =>
            cases rc
            cases ra
            cases rb
            exact ⟨i, j, rfl, hb, q1 as1 H1 _ e1 w1 (srcR i _)⟩
      · exact q1.elim
    · exact q1.elim⟩
theorem qi_enum {e : Expr} {m : Ev → M (List Vl)} {p tpos : Pos} {elts : List Expr} {kk : Nat} (hg : Gl X "enumerate") (hm : X.mg "enumerate" = none) (ha : QA X W [e] m) (hs : starEach [e] X.env = [(false, eval e X.env)] := by rfl) :
    QI X W (.Tuple elts kk tpos) (.Call (.Name "enumerate" p) [e] [] pos) (enumS m) :=
  (pi_enumA hg hm ha hs).imp fun σ H R ⟨hd, as, ρ, G, a, q⟩ => ⟨hd, as, ρ, G, a, (ResI.bindA q).mono fun vs H1 ⟨as1, G1, xs, e1, w1, r1, _, q1⟩ => by
    cases r1 with
    | nil => exact q1.elim
    | @cons x v _ _ ra rb =>
      cases rb with
      | cons _ _ => exact q1.elim
      | nil =>
        cases ek : seqKind x G1 with
        | none => simp only [ek] at q1; exact q1.elim
        | some p =>
          obtain ⟨b, n⟩ := p
          simp only [ek] at q1
          cases b with
          | true =>
            obtain ⟨p, e2, h2⟩ := seq_lst (n := n) ra ek
            obtain ⟨xs, h3, _⟩ := h2 hd as1 G1 H1 (Ext.refl _ _ _ _).later w1 (seq_fin ek)
            exact ⟨p, xs, by rw [e2], .inl ⟨h3, q1 as1 H1 _ e1 w1 (srcE e2 ra ek)⟩⟩
          | false =>
            obtain ⟨p, e2, h2⟩ := seq_tup (n := n) ra ek
            obtain ⟨xs, h3, _⟩ := h2 hd as1 G1 H1 (Ext.refl _ _ _ _).later w1 (seq_fin ek)
            exact ⟨p, xs, by rw [e2], .inr ⟨h3, q1 as1 H1 _ e1 w1 (srcET e2 ra ek)⟩⟩⟩
theorem qi_zip {e e2 : Expr} {m : Ev → M (List Vl)} {p tpos : Pos} {elts : List Expr} {kk : Nat} (hg : Gl X "zip") (hm : X.mg "zip" = none) (ha : QA X W [e, e2] m)
    (hs : starEach [e, e2] X.env = (false, eval e X.env) :: starEach [e2] X.env := by rfl) (hpl : (backTo pos (starEach [e2] X.env)).any (·.1) = false := by rfl) :
    QI X W (.Tuple elts kk tpos) (.Call (.Name "zip" p) [e, e2] [] pos) (zip2S m) :=
  (RZ.pi_zipA hg hm ha hs hpl).imp fun σ H R ⟨hd, as, ρ, G, a, q⟩ => ⟨hd, as, ρ, G, a, (ResI.bindA q).mono fun vs H1 ⟨as1, G1, xs, e1, w1, r1, _, q1⟩ => by
    cases r1 with
    | nil => exact q1.elim
    | @cons x v _ _ ra rb =>
      cases rb with
      | nil => exact q1.elim
      | @cons y u _ _ rb rc =>
        cases rc with
        | cons _ _ => exact q1.elim
        | nil =>
          cases ek : seqKind x G1 with
          | none => simp only [ek] at q1; exact q1.elim
          | some p =>
            cases ek' : seqKind y G1 with
            | none => simp only [ek, ek'] at q1; exact q1.elim
            | some p' =>
              obtain ⟨b, n⟩ := p
              obtain ⟨c, k⟩ := p'
              simp only [ek, ek'] at q1
              by_cases hbc : b = c
              · subst hbc
                simp only [if_pos] at q1
                cases b with
                | true =>
                  obtain ⟨p, e2, h2⟩ := seq_lst (n := n) ra ek
                  obtain ⟨xs, h3, _⟩ := h2 hd as1 G1 H1 (Ext.refl _ _ _ _).later w1 (seq_fin ek)
                  obtain ⟨p', e2', h2'⟩ := seq_lst (n := k) rb ek'
                  obtain ⟨ys, h3', _⟩ := h2' hd as1 G1 H1 (Ext.refl _ _ _ _).later w1 (seq_fin ek')
                  exact ⟨p, p', xs, ys, by rw [e2, e2'], .inl ⟨h3, h3', q1 as1 H1 _ e1 w1 (srcZ e2 e2' ra rb ek ek')⟩⟩
                | false =>
                  obtain ⟨p, e2, h2⟩ := seq_tup (n := n) ra ek
                  obtain ⟨xs, h3, _⟩ := h2 hd as1 G1 H1 (Ext.refl _ _ _ _).later w1 (seq_fin ek)
                  obtain ⟨p', e2', h2'⟩ := seq_tup (n := k) rb ek'
                  obtain ⟨ys, h3', _⟩ := h2' hd as1 G1 H1 (Ext.refl _ _ _ _).later w1 (seq_fin ek')
                  exact ⟨p, p', xs, ys, by rw [e2, e2'], .inr ⟨h3, h3', q1 as1 H1 _ e1 w1 (srcZT e2 e2' ra rb ek ek')⟩⟩
              · simp only [if_neg hbc] at q1; exact q1.elim⟩
end
end DL
end L2

/-! DL14: list comprehensions -/
namespace L2
namespace DL
open PySem PySem.Spec PyProof.Rows
variable [HasW]
abbrev W0 : WX := fun _ _ _ _ => False
section
variable {K : PySem.W.Frag} {hd as : List Addr} {G : Gh} {H : Hp} {L : Addr}
/-! ### hiding what is being built -/
theorem Fz_hide {a : Addr} {o : HO} (h : Fz (L :: hd) as G H a = some o) : Fz hd as G H a = some o ∧ a ≠ L := by
  unfold Fz at h ⊢
  split at h
  · cases h
  · rename_i c
    simp only [List.contains_cons, Bool.or_eq_true, not_or, beq_iff_eq] at c
    refine ⟨?_, c.1.1⟩
    rw [if_neg (by simp only [Bool.or_eq_true, not_or]; exact ⟨c.1.2, c.2⟩)]
    exact h
theorem Fz_hid {a : Addr} {o : HO} (h : Fz hd as G H a = some o) (hn : a ≠ L) : Fz (L :: hd) as G H a = some o := by
  unfold Fz at h ⊢
  split at h
  · cases h
  · rename_i c
    simp only [Bool.or_eq_true, not_or] at c
    rw [if_neg (by simp only [List.contains_cons, Bool.or_eq_true, not_or, beq_iff_eq]; exact ⟨⟨hn, c.1⟩, c.2⟩)]
    exact h
theorem Fz_at {a : Addr} {o : HO} (h : Fz hd as G H a = some o) : H a = some o := Fz.of h
theorem Fz_congr {H' : Hp} {a : Addr} (h : H' a = H a) : Fz hd as G H' a = Fz hd as G H a := by unfold Fz; rw [h]
theorem Wd.hide (w : Wd K hd as G H) (h : H L = none) (o : HO) : Wd K (L :: hd) as G (L2.upd H L o) ∧ Later hd as G H (L :: hd) as G (L2.upd H L o) ∧ L ∉ hd := by
  have hna := w.notin h
  have hnh := w.nohid h
  have keep : ∀ a u, Fz hd as G H a = some u → Fz (L :: hd) as G (L2.upd H L o) a = some u := fun a u z => by
    have hn : a ≠ L := fun e => by rw [e] at z; rw [Fz_at z] at h; cases h
    exact Fz_hid (by rw [Fz_congr (upd_ne hn)]; exact z) hn
  refine ⟨⟨w.len, w.nd, fun i go a e1 e2 => ?_, fun a ha => ?_, fun a ha => ?_⟩, ⟨List.prefix_refl _, keep⟩, hnh⟩
  · have hn : a ≠ L := fun e => hna (e ▸ List.mem_of_getElem? e2)
    exact RelGO.mono (List.prefix_refl _) keep (fun u z => by rw [upd_ne hn]; exact z) (w.cell i go a e1 e2)
  · have hn : a ≠ L := fun e => hna (e ▸ ha)
    rw [upd_ne hn]; exact w.here a ha
  · rcases List.mem_cons.mp ha with e | ha
    · subst e; exact ⟨by rw [upd_same]; simp, hna⟩
    · have hn : a ≠ L := fun e => hnh (e ▸ ha)
      rw [upd_ne hn]; exact w.hid a ha
theorem Wd.hidUpd (w : Wd K (L :: hd) as G H) (o : HO) : Wd K (L :: hd) as G (L2.upd H L o) ∧ ∀ a u, Fz (L :: hd) as G H a = some u → Fz (L :: hd) as G (L2.upd H L o) a = some u := by
  have hna := (w.hid L (by simp)).2
  have keep : ∀ a u, Fz (L :: hd) as G H a = some u → Fz (L :: hd) as G (L2.upd H L o) a = some u := fun a u z => by
    rw [Fz_congr (upd_ne (Fz_hide z).2)]; exact z
  refine ⟨⟨w.len, w.nd, fun i go a e1 e2 => ?_, fun a ha => ?_, fun a ha => ?_⟩, keep⟩
  · have hn : a ≠ L := fun e => hna (e ▸ List.mem_of_getElem? e2)
    exact RelGO.mono (List.prefix_refl _) keep (fun u z => by rw [upd_ne hn]; exact z) (w.cell i go a e1 e2)
  · have hn : a ≠ L := fun e => hna (e ▸ ha)
    rw [upd_ne hn]; exact w.here a ha
  · by_cases e : a = L
    · subst e; exact ⟨by rw [upd_same]; simp, hna⟩
    · rw [upd_ne e]; exact w.hid a ha
theorem Wd.unhide (w : Wd K (L :: hd) as G H) (hn : L ∉ hd) : Wd K hd as G H ∧ (∀ a u, Fz (L :: hd) as G H a = some u → Fz hd as G H a = some u) ∧ Fz hd as G H L = H L := by
  have hna := (w.hid L (by simp)).2
  refine ⟨⟨w.len, w.nd, fun i go a e1 e2 => RelGO.mono (List.prefix_refl _) (fun a u z => (Fz_hide z).1) (fun _ z => z) (w.cell i go a e1 e2), w.here, fun a ha => w.hid a (List.mem_cons_of_mem _ ha)⟩, fun a u z => (Fz_hide z).1, ?_⟩
  unfold Fz
  rw [if_neg (by simp only [Bool.or_eq_true, not_or]; exact ⟨by rw [not_hid hn]; simp, by rw [liveB_free hna]; simp⟩)]
/-- a hidden list becomes a cell -/
theorem Wd.unhideC {go : GO} {o : HO} (w : Wd K (L :: hd) as G H) (hn : L ∉ hd) (ho : H L = some o) (on : go.on = true) (hg : RelGO K (as ++ [L]) (Fz hd (as ++ [L]) (G ++ [go]) H) H L go) :
    Wd K hd (as ++ [L]) (G ++ [go]) H ∧ ∀ a u, Fz (L :: hd) as G H a = some u → Fz hd (as ++ [L]) (G ++ [go]) H a = some u := by
  have hna := (w.hid L (by simp)).2
  have keep : ∀ a u, Fz (L :: hd) as G H a = some u → Fz hd (as ++ [L]) (G ++ [go]) H a = some u := fun a u z => by
    have hne := (Fz_hide z).2
    have z' := (Fz_hide z).1
    unfold Fz at z' ⊢
    rw [liveB_app w.len]
    split at z'
    · cases z'
    · rename_i c
      simp only [Bool.or_eq_true, not_or] at c
      rw [if_neg (by simp only [Bool.or_eq_true, not_or, Bool.and_eq_true, beq_iff_eq]; exact ⟨c.1, c.2, fun q => hne q.1.symm⟩)]
      exact z'
  refine ⟨⟨by simp [w.len], ?_, fun i g a e1 e2 => ?_, fun a ha => ?_, fun a ha => ⟨(w.hid a (List.mem_cons_of_mem _ ha)).1, ?_⟩⟩, keep⟩
  · rw [List.nodup_append]
    exact ⟨w.nd, by simp, fun a ha b hb e => hna (by rw [List.mem_singleton] at hb; subst hb; exact e ▸ ha)⟩
  · by_cases hi : i < as.length
    · rw [List.getElem?_append_left hi] at e2
      rw [List.getElem?_append_left (by rw [← w.len]; exact hi)] at e1
      exact RelGO.mono (List.prefix_append _ _) keep (fun _ z => z) (w.cell i g a e1 e2)
    · have hi' : i = as.length := by
        have := (List.getElem?_eq_some_iff.mp e2).1
        simp at this; omega
      subst hi'
      simp at e2
      rw [w.len] at e1
      simp at e1
      subst e1 e2
      exact hg
  · rcases List.mem_append.mp ha with ha | ha
    · exact w.here a ha
    · rw [List.mem_singleton] at ha; subst ha; rw [ho]; simp
  · intro hm
    rcases List.mem_append.mp hm with hm | hm
    · exact (w.hid a (List.mem_cons_of_mem _ ha)).2 hm
    · rw [List.mem_singleton] at hm; subst hm; exact hn ha
end
/-! ### what a block leaves of the slots -/
theorem wipe_get (σ : St) : ∀ (vs : List Nat) (i : Nat), (wipe σ vs)[i]? = if i ∈ vs then (if i < σ.length then some none else none) else σ[i]?
  | [], i => by simp [L2.wipe]
  | v :: vs, i => by
    unfold L2.wipe
    by_cases e : v = i
    · subst e
      simp only [List.mem_cons, true_or, if_true]
      by_cases hl : v < σ.length
      · rw [List.getElem?_set_self (by rw [wipe_length]; exact hl), if_pos hl]
      · rw [if_neg hl, List.getElem?_eq_none (by rw [List.length_set, wipe_length]; omega)]
    · rw [List.getElem?_set_ne e, wipe_get σ vs i]
      simp [Ne.symm e]
theorem wipe_back {σ σ2 : St} {js vs : List Nat} (hs : ∀ j ∈ js, j ∈ vs) (l : σ2.length = (wipe σ vs).length) (k : ∀ i, i ∉ js → σ2[i]? = (wipe σ vs)[i]?) : wipe σ2 vs = wipe σ vs := by
  rw [wipe_length] at l
  refine List.ext_getElem? fun i => ?_
  rw [wipe_get, wipe_get]
  by_cases hi : i ∈ vs
  · rw [if_pos hi, if_pos hi, l]
  · rw [if_neg hi, if_neg hi, k i fun z => hi (hs i z), wipe_get, if_neg hi]
/-! ### meanings -/
def lcL (g : GD) (t : Ev → M Bool) (e : Ev → M Vl) (S : Src) (ρ : Ev) : Nat → Nat → List Vl → Gh → Option (List Vl × Gh)
  | 0, _, acc, G => if S.fin G = true then some (acc, G) else none
  | k + 1, i, acc, G => match S.item i G with
    | none => none
    | some x => match g x ρ with
      | none => none
      | some ρ1 => match t ρ1 G with
        | .ok true G1 => (match e ρ1 G1 with
          | .ok y G2 => if acc.length < sizeLine then lcL g t e S ρ k (i + 1) (acc ++ [y]) G2 else none
          | _ => none)
        | .ok false G1 => lcL g t e S ρ k (i + 1) acc G1
        | _ => none
def lcL2 (g : GD) (t : Ev → M Bool) (mi : Ev → M Src) (vs : List Nat) (g1 : GD) (t1 : Ev → M Bool) (e : Ev → M Vl) (S : Src) (ρ : Ev) : Nat → Nat → List Vl → Gh → Option (List Vl × Gh)
  | 0, _, acc, G => if S.fin G = true then some (acc, G) else none
  | k + 1, i, acc, G => match S.item i G with
    | none => none
    | some x => match g x ρ with
      | none => none
      | some ρ1 => match t ρ1 G with
        | .ok true G1 => (match mi ρ1 G1 with
          | .ok S1 G2 => (match lcL g1 t1 e S1 (wipeE ρ1 vs) S1.n 0 acc G2 with
            | some (acc', G3) => lcL2 g t mi vs g1 t1 e S ρ k (i + 1) acc' G3
            | none => none)
          | _ => none)
        | .ok false G1 => lcL2 g t mi vs g1 t1 e S ρ k (i + 1) acc G1
        | _ => none
def lcM (mi : Ev → M Src) (vs : List Nat) (g : GD) (t : Ev → M Bool) (e : Ev → M Vl) : Ev → M (List Vl) := fun ρ => andThen (mi ρ) fun S G => match lcL g t e S (wipeE ρ vs) S.n 0 [] G with
  | some (acc, G') => .ok acc G'
  | none => .no
def lcM2 (mi : Ev → M Src) (vs : List Nat) (g : GD) (t : Ev → M Bool) (mi1 : Ev → M Src) (vs1 : List Nat) (g1 : GD) (t1 : Ev → M Bool) (e : Ev → M Vl) : Ev → M (List Vl) := fun ρ => andThen (mi ρ) fun S G => match lcL2 g t mi1 vs1 g1 t1 e S (wipeE ρ vs) S.n 0 [] G with
  | some (acc, G') => .ok acc G'
  | none => .no
/-- the list that has come: data -/
def asLst (m : Ev → M (List Vl)) : Ev → M Vl := fun ρ => andThen (m ρ) fun xs G => match allDat xs with
  | some ds => .ok (.dat (.lst ds)) G
  | none => .no
/-- a cell -/
def asCel (m : Ev → M (List Vl)) : Ev → M Vl := fun ρ => andThen (m ρ) fun xs G => .ok (.ref G.length) (G ++ [.lst xs])
def yesB : Ev → M Bool := fun _ => ret true
section
variable {X : Cx} {pos : Pos}
theorem _root_.L2.PTs.imp {X : Cx} {e : List Expr} {t t' : TT} (h : PTs X e t) (k : ∀ σ H Q, t' σ H Q → t σ H Q) : PTs X e t' := ⟨fun a b c d e I q => h.run a b c d e I (k c d e q)⟩
abbrev QTs (X : Cx) (W : WX) (e : List Expr) (m : Ev → M Bool) : Prop := PTs X e (lowB X.K W m)
theorem qts_nil {W : WX} : QTs X W [] yesB := pts_nil.imp fun σ H Q ⟨hd, as, ρ, G, a, q⟩ => q as H (Ext.refl _ _ _ _) a.wd
theorem qts_one {W : WX} {c : Expr} {t : Ev → M Bool} (h : QT X W c t) : QTs X W [c] t := pts_one h
end
/-- while a comprehension is built: D the list, hidden -/
structure Bld (K : PySem.W.Frag) (hd as1 : List Addr) (G1 : Gh) (H1 : Hp) (L : Addr) (ρ : Ev) (σ : St) (as : List Addr) (G : Gh) (H : Hp) (xs : List Vl) : Prop where
  ltr : Later hd as1 G1 H1 (L :: hd) as G H
  hid : ∀ a ∈ hd, H a = H1 a
  nh : L ∉ hd
  at_ : At K (L :: hd) as ρ G σ H
  acc : ∃ ys, H L = some (.lst ys) ∧ RelVls K as (Fz (L :: hd) as G H) xs ys
theorem At.later {K : PySem.W.Frag} {hd0 hd as0 as : List Addr} {ρ : Ev} {G0 G : Gh} {σ : St} {H0 H : Hp} (a : At K hd0 as0 ρ G0 σ H0) (l : Later hd0 as0 G0 H0 hd as G H) (w : Wd K hd as G H) : At K hd as ρ G σ H :=
  ⟨w, a.len, fun i x h => let ⟨v, h1, h2⟩ := a.slot i x h; ⟨v, h1, h2.mono l.pre l.keep⟩⟩
section
variable {K : PySem.W.Frag} {hd as1 : List Addr} {G1 : Gh} {H1 : Hp} {L : Addr} {ρ : Ev} {σ : St} {as as2 : List Addr} {G G2 : Gh} {H H2 : Hp} {xs : List Vl}
theorem Bld.start (a : At K hd as1 ρ G1 σ H1) (h : H1 L = none) : Bld K hd as1 G1 H1 L ρ σ as1 G1 (upd H1 L (.lst [])) [] := by
  obtain ⟨w, l, n⟩ := a.wd.hide h (.lst [])
  exact ⟨l, fun b hb => upd_ne fun e => n (e ▸ hb), n, a.later l w, [], upd_same, .nil⟩
theorem Bld.ext (b : Bld K hd as1 G1 H1 L ρ σ as G H xs) (e : Ext (L :: hd) as G H as2 G2 H2) (w : Wd K (L :: hd) as2 G2 H2) : Bld K hd as1 G1 H1 L ρ σ as2 G2 H2 xs := by
  obtain ⟨ys, h1, h2⟩ := b.acc
  exact ⟨b.ltr.ext e, fun a ha => (e.hid a (List.mem_cons_of_mem _ ha)).trans (b.hid a ha), b.nh, b.at_.ext e w, ys, (e.hid L (by simp)).trans h1, h2.ext e⟩
theorem Bld.app {y : Vl} {v : V} (b : Bld K hd as1 G1 H1 L ρ σ as G H xs) (r : RelVl K as (Fz (L :: hd) as G H) y v) : ∃ ys, H L = some (.lst ys) ∧ ys.length = xs.length ∧ Bld K hd as1 G1 H1 L ρ σ as G (upd H L (.lst (ys ++ [v]))) (xs ++ [y]) := by
  obtain ⟨ys, h1, h2⟩ := b.acc
  obtain ⟨w2, k2⟩ := b.at_.wd.hidUpd (.lst (ys ++ [v]))
  refine ⟨ys, h1, (Paired.length h2).symm, ⟨b.ltr.pre, fun a o z => k2 a o (b.ltr.keep a o z)⟩, fun a ha => ?_, b.nh, b.at_.later ⟨List.prefix_refl _, k2⟩ w2, _, upd_same, ?_⟩
  · have hn : a ≠ L := fun e => b.nh (e ▸ ha)
    rw [upd_ne hn]; exact b.hid a ha
  · exact Paired.snoc (Paired.mapP h2 fun _ _ z => z.mono (List.prefix_refl _) k2) (r.mono (List.prefix_refl _) k2)
theorem Bld.at2 {ρ2 : Ev} {σ2 : St} (b : Bld K hd as1 G1 H1 L ρ σ as G H xs) (a : At K (L :: hd) as ρ2 G σ2 H) : Bld K hd as1 G1 H1 L ρ2 σ2 as G H xs := ⟨b.ltr, b.hid, b.nh, a, b.acc⟩
/-- it is done: data -/
theorem Bld.lst {ds : List D} (b : Bld K hd as1 G1 H1 L ρ σ as G H xs) (h : allDat xs = some ds) : Ext hd as1 G1 H1 as G H ∧ Wd K hd as G H ∧ RelVl K as (Fz hd as G H) (.dat (.lst ds)) (.ref L) := by
  obtain ⟨ys, h1, h2⟩ := b.acc
  obtain ⟨w, k, f⟩ := b.at_.wd.unhide b.nh
  exact ⟨⟨b.ltr.pre, fun a o z => k a o (b.ltr.keep a o z), b.hid⟩, w, RelD.lst (.inl (f.trans h1)) ((allDat_rel h h2).mono k)⟩
theorem Bld.cel (b : Bld K hd as1 G1 H1 L ρ σ as G H xs) : Ext hd as1 G1 H1 (as ++ [L]) (G ++ [.lst xs]) H ∧ Wd K hd (as ++ [L]) (G ++ [.lst xs]) H ∧ RelVl K (as ++ [L]) (Fz hd (as ++ [L]) (G ++ [.lst xs]) H) (.ref G.length) (.ref L) := by
  obtain ⟨ys, h1, h2⟩ := b.acc
  have k0 : ∀ a u, Fz (L :: hd) as G H a = some u → Fz hd (as ++ [L]) (G ++ [.lst xs]) H a = some u := fun a u z => by
    have hne := (Fz_hide z).2
    have z' := (Fz_hide z).1
    unfold Fz at z' ⊢
    rw [liveB_app b.at_.wd.len]
    split at z'
    · cases z'
    · rename_i c
      simp only [Bool.or_eq_true, not_or] at c
      rw [if_neg (by simp only [Bool.or_eq_true, not_or, Bool.and_eq_true, beq_iff_eq]; exact ⟨c.1, c.2, fun q => hne q.1.symm⟩)]
      exact z'
  obtain ⟨w, k⟩ := b.at_.wd.unhideC (go := .lst xs) b.nh h1 rfl ⟨ys, h1, Paired.mapP h2 fun _ _ z => z.mono (List.prefix_append _ _) k0⟩
  exact ⟨⟨b.ltr.pre.trans (List.prefix_append _ _), fun a o z => k a o (b.ltr.keep a o z), b.hid⟩, w, L, by rw [← b.at_.wd.len]; simp, rfl⟩
end
/-- one loop of a comprehension, from xs to ys -/
theorem lc_loop {K : PySem.W.Frag} {hd as1 : List Addr} {G1 : Gh} {H1 : Hp} {L : Addr} {ρ : Ev} {σ : St} {as0 : List Addr} {G0 : Gh} {H0 : Hp} {xs0 ys : List Vl} {Gz : Gh} {g : GD} {js vs : List Nat} {t : Ev → M Bool} {e : Ev → M Vl} {S : Src} {J : It} {Fin : Hp → Prop}
    (hj : ∀ j ∈ js, j ∈ vs) (so : SrcOk K (L :: hd) as0 G0 H0 S J) (b0 : Bld K hd as1 G1 H1 L (wipeE ρ vs) (wipe σ vs) as0 G0 H0 xs0) (hr : lcL g t e S (wipeE ρ vs) S.n 0 xs0 G0 = some (ys, Gz))
    (fin : ∀ as H, Later (L :: hd) as0 G0 H0 (L :: hd) as Gz H → Bld K hd as1 G1 H1 L (wipeE ρ vs) (wipe σ vs) as Gz H ys → Fin H) :
    ∃ W : Nat → Nat → Hp → Prop, (∃ m, W 0 m H0) ∧ ∀ i m H, W i m H →
      (J.stop i H ∧ Fin H) ∨ (J.go i H ∧ ∃ Nx : Hp → Prop, (∀ H', Nx H' → ∃ m', m' < m ∧ W (i + 1) m' H') ∧ ∀ x H', J.yld i H x H' → lowG K js g x (wipe σ vs) H' fun σ2 H2 => wipe σ2 vs = wipe σ vs ∧ lowB K W0 t σ2 H2 fun b H3 =>
        if b = true then lowE K W0 e σ2 H3 fun y H4 => ∃ acc, H4 L = some (.lst acc) ∧ acc.length < sizeLine ∧ Nx (upd H4 L (.lst (acc ++ [y]))) else Nx H3) := by
  refine ⟨fun i m H => m = S.n - i ∧ i ≤ S.n ∧ ∃ as G xs, Later (L :: hd) as0 G0 H0 (L :: hd) as G H ∧ Bld K hd as1 G1 H1 L (wipeE ρ vs) (wipe σ vs) as G H xs ∧ lcL g t e S (wipeE ρ vs) (S.n - i) i xs G = some (ys, Gz), ⟨_, rfl, Nat.zero_le _, as0, G0, xs0, (Ext.refl _ _ _ _).later, b0, hr⟩, ?_⟩
  rintro i m H ⟨rfl, hi, as, G, xs, l, b, hr⟩
  by_cases hlt : i < S.n
  · obtain ⟨k, hk⟩ : ∃ k, S.n - i = k + 1 := ⟨S.n - i - 1, by omega⟩
    rw [hk] at hr
    unfold lcL at hr
    cases ei : S.item i G with
    | none => simp only [ei] at hr; cases hr
    | some x =>
      simp only [ei] at hr
      obtain ⟨go, y⟩ := so.goes i (L :: hd) as G H x l b.at_.wd hlt ei
      refine .inr ⟨go, fun H3 => ∃ as3 G3 xs3, Later (L :: hd) as0 G0 H0 (L :: hd) as3 G3 H3 ∧ Bld K hd as1 G1 H1 L (wipeE ρ vs) (wipe σ vs) as3 G3 H3 xs3 ∧ lcL g t e S (wipeE ρ vs) k (i + 1) xs3 G3 = some (ys, Gz), fun H3 ⟨as3, G3, xs3, l3, b3, q3⟩ => ⟨S.n - (i + 1), by omega, rfl, hlt, as3, G3, xs3, l3, b3, by rw [show S.n - (i + 1) = k by omega]; exact q3⟩, fun v H3 yl => ?_⟩
      obtain ⟨e3, w3, r3⟩ := y v H3 yl
      cases eg : g x (wipeE ρ vs) with
      | none => simp only [eg] at hr; cases hr
      | some ρ1 =>
        simp only [eg] at hr
        have b3 := b.ext e3 w3
        have l3 := l.ext e3
        refine ⟨L :: hd, as, wipeE ρ vs, G, x, b3.at_, r3, ρ1, eg, fun σ4 a4 n4 k4 => ⟨wipe_back hj n4 k4, L :: hd, as, ρ1, G, a4, ?_⟩⟩
        cases et : t ρ1 G with
        | no => simp only [et] at hr; cases hr
        | ex c d G' => simp only [et] at hr; cases hr
        | ok bb G5 =>
          simp only [et] at hr
          intro as5 H5 e5 w5
          have b5 := b3.ext e5 w5
          have l5 := l3.ext e5
          cases bb with
          | false =>
            simp only [Bool.false_eq_true, if_false]
            exact ⟨as5, G5, xs, l5, b5, hr⟩
          | true =>
            simp only [if_true]
            refine ⟨L :: hd, as5, ρ1, G5, a4.ext e5 w5, ?_⟩
            cases ee : e ρ1 G5 with
            | no => simp only [ee] at hr; cases hr
            | ex c d G' => simp only [ee] at hr; cases hr
            | ok z G6 =>
              simp only [ee] at hr
              intro as6 H6 v6 e6 w6 r6
              have b6 := b5.ext e6 w6
              have l6 := l5.ext e6
              by_cases hz : xs.length < sizeLine
              · rw [if_pos hz] at hr
                obtain ⟨acc, h7, n7, b7⟩ := b6.app r6
                refine ⟨acc, h7, by rw [n7]; exact hz, as6, G6, _, ?_, b7, hr⟩
                obtain ⟨_, k7⟩ := b6.at_.wd.hidUpd (.lst (acc ++ [v6]))
                exact ⟨l6.pre, fun a o q => k7 a o (l6.keep a o q)⟩
              · rw [if_neg hz] at hr; cases hr
  · have hi' : i = S.n := by omega
    subst hi'
    rw [Nat.sub_self] at hr
    unfold lcL at hr
    by_cases hf : S.fin G = true
    · rw [if_pos hf] at hr
      cases hr
      exact .inl ⟨so.stops (L :: hd) as _ H l b.at_.wd hf, fin as H l b⟩
    · rw [if_neg hf] at hr; cases hr
end DL
end L2

/-! DL15: the rules of list comprehensions -/
namespace L2
namespace DL
open PySem PySem.Spec PyProof.Rows
variable [HasW]
theorem Later.trans {h0 h1 h2 a0 a1 a2 : List Addr} {G0 G1 G2 : Gh} {H0 H1 H2 : Hp} (x : Later h0 a0 G0 H0 h1 a1 G1 H1) (y : Later h1 a1 G1 H1 h2 a2 G2 H2) : Later h0 a0 G0 H0 h2 a2 G2 H2 := ⟨x.pre.trans y.pre, fun a o h => y.keep a o (x.keep a o h)⟩
theorem SrcOk.later {K : PySem.W.Frag} {h0 h1 a0 a1 : List Addr} {G0 G1 : Gh} {H0 H1 : Hp} {S : Src} {J : It} (s : SrcOk K h0 a0 G0 H0 S J) (l : Later h0 a0 G0 H0 h1 a1 G1 H1) : SrcOk K h1 a1 G1 H1 S J :=
  ⟨fun t h as G H x l2 w hlt hx => s.goes t h as G H x (l.trans l2) w hlt hx, fun h as G H l2 w hf => s.stops h as G H (l.trans l2) w hf⟩
/-- what is made of the list that has come -/
structure Ends1 (f : List Vl → M Vl) : Prop where
  fin : ∀ {K : PySem.W.Frag} {W : WX} {hd as1 as : List Addr} {G1 G : Gh} {H1 H : Hp} {L : Addr} {ρ : Ev} {σ σ' : St} {xs : List Vl} {Q : VK}, Bld K hd as1 G1 H1 L ρ σ as G H xs → Res K hd W σ' as1 G1 H1 (f xs G) Q → Q (.ref L) H
def lstF : List Vl → M Vl := fun xs G => match allDat xs with
  | some ds => .ok (.dat (.lst ds)) G
  | none => .no
def celF : List Vl → M Vl := fun xs G => .ok (.ref G.length) (G ++ [.lst xs])
theorem lstF_ends : Ends1 lstF := ⟨fun {K W hd as1 as G1 G H1 H L ρ σ σ' xs Q} b q => by
  unfold lstF at q
  cases e : allDat xs with
  | none => rw [e] at q; exact q.elim
  | some ds =>
    rw [e] at q
    obtain ⟨e1, w1, r1⟩ := b.lst e
    exact q _ H _ e1 w1 r1⟩
theorem celF_ends : Ends1 celF := ⟨fun b q => by
  obtain ⟨e1, w1, r1⟩ := b.cel
  exact q _ _ _ e1 w1 r1⟩
def finE (f : List Vl → M Vl) (m : Ev → M (List Vl)) : Ev → M Vl := fun ρ => andThen (m ρ) f
section
variable {K : PySem.W.Frag} {W : WX} {hd as : List Addr} {ρ : Ev} {G : Gh} {σ : St} {H : Hp} {Q : VK} {mi mi1 : Ev → M Src} {g g1 : GD} {t t1 : Ev → M Bool} {e : Ev → M Vl} {vs vs1 js ks : List Nat} {f : List Vl → M Vl}
theorem lc_read (hf : Ends1 f) (hj : ∀ j ∈ js, j ∈ vs) (a : At K hd as ρ G σ H) (q : Res K hd W σ as G H (finE f (lcM mi vs g t e) ρ G) Q) : tLc (lowI K W mi) (lowG K js g) (lowB K W0 t) (lowE K W0 e) vs σ H Q := by
  refine ⟨hd, as, ρ, G, a, ?_⟩
  unfold finE lcM andThen at q
  cases em : mi ρ G with
  | no => rw [em] at q; exact q
  | ex c d G' => rw [em] at q; exact q
  | ok S G1 =>
    rw [em] at q
    simp only at q
    cases er : lcL g t e S (wipeE ρ vs) S.n 0 [] G1 with
    | none => rw [er] at q; exact q.elim
    | some p =>
      obtain ⟨ys, Gz⟩ := p
      rw [er] at q
      intro as1 H1 J e1 w1 so L hL
      have b0 := Bld.start ((a.ext e1 w1).wipe vs) hL
      exact lc_loop hj (so.later b0.ltr) b0 er fun as2 H2 _ b => hf.fin b (q.pull e1)
theorem lc_read2 (hf : Ends1 f) (hj : ∀ j ∈ js, j ∈ vs) (hk : ∀ j ∈ ks, j ∈ vs1) (a : At K hd as ρ G σ H) (q : Res K hd W σ as G H (finE f (lcM2 mi vs g t mi1 vs1 g1 t1 e) ρ G) Q) :
    tLc2 (lowI K W mi) (lowG K js g) (lowB K W0 t) (lowI K W0 mi1) (lowG K ks g1) (lowB K W0 t1) (lowE K W0 e) vs vs1 σ H Q := by
  refine ⟨hd, as, ρ, G, a, ?_⟩
  unfold finE lcM2 andThen at q
  cases em : mi ρ G with
  | no => rw [em] at q; exact q
  | ex c d G' => rw [em] at q; exact q
  | ok S G1 =>
    rw [em] at q
    simp only at q
    cases er : lcL2 g t mi1 vs1 g1 t1 e S (wipeE ρ vs) S.n 0 [] G1 with
    | none => rw [er] at q; exact q.elim
    | some p =>
      obtain ⟨ys, Gz⟩ := p
      rw [er] at q
      intro as1 H1 J e1 w1 so L hL
      have b0 := Bld.start ((a.ext e1 w1).wipe vs) hL
      have so0 := so.later b0.ltr
      have q1 := q.pull e1
      generalize hH0 : L2.upd H1 L (.lst []) = H0 at b0 so0 ⊢
      refine ⟨fun i m H => m = S.n - i ∧ i ≤ S.n ∧ ∃ as G xs, Later (L :: hd) as1 G1 H0 (L :: hd) as G H ∧ Bld K hd as1 G1 H1 L (wipeE ρ vs) (wipe σ vs) as G H xs ∧ lcL2 g t mi1 vs1 g1 t1 e S (wipeE ρ vs) (S.n - i) i xs G = some (ys, Gz), ⟨_, rfl, Nat.zero_le _, as1, G1, [], (Ext.refl _ _ _ _).later, b0, er⟩, ?_⟩
      rintro i m H2 ⟨rfl, hi, as2, G2, xs, l, b, hr⟩
      by_cases hlt : i < S.n
      · obtain ⟨k, hk'⟩ : ∃ k, S.n - i = k + 1 := ⟨S.n - i - 1, by omega⟩
        rw [hk'] at hr
        unfold lcL2 at hr
        cases ei : S.item i G2 with
        | none => simp only [ei] at hr; cases hr
        | some x =>
          simp only [ei] at hr
          obtain ⟨go, y⟩ := so0.goes i (L :: hd) as2 G2 H2 x l b.at_.wd hlt ei
          refine .inr ⟨go, fun H3 => ∃ as3 G3 xs3, Later (L :: hd) as1 G1 H0 (L :: hd) as3 G3 H3 ∧ Bld K hd as1 G1 H1 L (wipeE ρ vs) (wipe σ vs) as3 G3 H3 xs3 ∧ lcL2 g t mi1 vs1 g1 t1 e S (wipeE ρ vs) k (i + 1) xs3 G3 = some (ys, Gz), fun H3 ⟨as3, G3, xs3, l3, b3, q3⟩ => ⟨S.n - (i + 1), by omega, rfl, hlt, as3, G3, xs3, l3, b3, by rw [show S.n - (i + 1) = k by omega]; exact q3⟩, fun v H3 yl => ?_⟩
          obtain ⟨e3, w3, r3⟩ := y v H3 yl
          cases eg : g x (wipeE ρ vs) with
          | none => simp only [eg] at hr; cases hr
          | some ρ1 =>
            simp only [eg] at hr
            have b3 := b.ext e3 w3
            have l3 := l.ext e3
            refine ⟨L :: hd, as2, wipeE ρ vs, G2, x, b3.at_, r3, ρ1, eg, fun σ4 a4 n4 k4 => ⟨wipe_back hj n4 k4, L :: hd, as2, ρ1, G2, a4, ?_⟩⟩
            cases et : t ρ1 G2 with
            | no => simp only [et] at hr; cases hr
            | ex c d G' => simp only [et] at hr; cases hr
            | ok bb G5 =>
              simp only [et] at hr
              intro as5 H5 e5 w5
              have b5 := b3.ext e5 w5
              have l5 := l3.ext e5
              cases bb with
              | false =>
                simp only [Bool.false_eq_true, if_false]
                exact ⟨as5, G5, xs, l5, b5, hr⟩
              | true =>
                simp only [if_true]
                refine ⟨L :: hd, as5, ρ1, G5, a4.ext e5 w5, ?_⟩
                cases ee : mi1 ρ1 G5 with
                | no => simp only [ee] at hr; cases hr
                | ex c d G' => simp only [ee] at hr; cases hr
                | ok S1 G6 =>
                  simp only [ee] at hr
                  intro as6 H6 J1 e6 w6 so6
                  have b6 := b5.ext e6 w6
                  have l6 := l5.ext e6
                  cases el : lcL g1 t1 e S1 (wipeE ρ1 vs1) S1.n 0 xs G6 with
                  | none => simp only [el] at hr; cases hr
                  | some p =>
                    obtain ⟨acc', G7⟩ := p
                    simp only [el] at hr
                    have b7 : Bld K hd as1 G1 H1 L (wipeE ρ1 vs1) (wipe σ4 vs1) as6 G6 H6 xs := b6.at2 (((a4.ext e5 w5).ext e6 w6).wipe vs1)
                    exact lc_loop hk so6 b7 el fun as8 H8 l8 b8 => ⟨as8, G7, acc', l6.trans l8, b8.at2 (b6.at_.later l8 b8.at_.wd), hr⟩
      · have hi' : i = S.n := by omega
        subst hi'
        rw [Nat.sub_self] at hr
        unfold lcL2 at hr
        by_cases hf' : S.fin G2 = true
        · rw [if_pos hf'] at hr
          cases hr
          exact .inl ⟨so0.stops (L :: hd) as2 _ H2 l b.at_.wd hf', hf.fin b q1⟩
        · rw [if_neg hf'] at hr; cases hr
end
section
variable {X : Cx} {W : WX} {pos : Pos} {elt tg iter tg1 iter1 : Expr} {ifs ifs1 : List Expr} {scope : Scope} {own : List (Str × Nat)} {mi mi1 : Ev → M Src} {g g1 : GD} {t t1 : Ev → M Bool} {m : Ev → M Vl} {js ks vs1 : List Nat} {f : List Vl → M Vl}
theorem q_lc (hf : Ends1 f) (hj : ∀ j ∈ js, j ∈ own.map (·.2)) (hc : X.calm = true) (hN : X.N.Nodup) (hi : QI X W tg iter mi) (ok : BlkOk X.N X.env.scope scope own)
    (hg : ∀ (s : Shared) (H : Hp) (C : Addr) (cl : List (Str × Addr)) (fp : List Addr), QG (X.blk s H scope (compEnvC scope cl C X.env) fp) tg js g) (ht : ∀ (s : Shared) (H : Hp) (C : Addr) (cl : List (Str × Addr)) (fp : List Addr), QTs (X.blk s H scope (compEnvC scope cl C X.env) fp) W0 ifs t)
    (he : ∀ (s : Shared) (H : Hp) (C : Addr) (cl : List (Str × Addr)) (fp : List Addr), QE (X.blk s H scope (compEnvC scope cl C X.env) fp) W0 elt m) (hs : ∀ x, foldedSetIterable iter X.env x = pure x := by intro _; rfl) :
    QE X W (.ListComp elt [⟨tg, iter, ifs, 0⟩] scope pos) (finE f (lcM mi (own.map (·.2)) g t m)) :=
  (pe_lc hc hN hi ok hg ht he hs).imp fun σ H Q ⟨hd, as, ρ, G, a, q⟩ => lc_read hf hj a q
theorem q_lc2 (hf : Ends1 f) (hj : ∀ j ∈ js, j ∈ own.map (·.2)) (hk : ∀ j ∈ ks, j ∈ vs1) (hc : X.calm = true) (hN : X.N.Nodup) (hi : QI X W tg iter mi) (ok : BlkOk X.N X.env.scope scope own) (hv : ∀ i ∈ vs1, i ∈ own.map (·.2))
    (hg : ∀ (s : Shared) (H : Hp) (C : Addr) (cl : List (Str × Addr)) (fp : List Addr), QG (X.blk s H scope (compEnvC scope cl C X.env) fp) tg js g) (ht : ∀ (s : Shared) (H : Hp) (C : Addr) (cl : List (Str × Addr)) (fp : List Addr), QTs (X.blk s H scope (compEnvC scope cl C X.env) fp) W0 ifs t)
    (hi1 : ∀ (s : Shared) (H : Hp) (C : Addr) (cl : List (Str × Addr)) (fp : List Addr), QI (X.blk s H scope (compEnvC scope cl C X.env) fp) W0 tg1 iter1 mi1)
    (hg1 : ∀ (s : Shared) (H : Hp) (C : Addr) (cl : List (Str × Addr)) (fp : List Addr), QG (X.blk s H scope (compEnvC scope cl C X.env) fp) tg1 ks g1) (ht1 : ∀ (s : Shared) (H : Hp) (C : Addr) (cl : List (Str × Addr)) (fp : List Addr), QTs (X.blk s H scope (compEnvC scope cl C X.env) fp) W0 ifs1 t1)
    (he : ∀ (s : Shared) (H : Hp) (C : Addr) (cl : List (Str × Addr)) (fp : List Addr), QE (X.blk s H scope (compEnvC scope cl C X.env) fp) W0 elt m) (hs : ∀ x, foldedSetIterable iter X.env x = pure x := by intro _; rfl) (hs1 : ∀ env x, foldedSetIterable iter1 env x = pure x := by intro _ _; rfl) :
    QE X W (.ListComp elt [⟨tg, iter, ifs, 0⟩, ⟨tg1, iter1, ifs1, 0⟩] scope pos) (finE f (lcM2 mi (own.map (·.2)) g t mi1 vs1 g1 t1 m)) :=
  (pe_lc2 hc hN hi ok hv hg ht hi1 hg1 ht1 he hs hs1).imp fun σ H Q ⟨hd, as, ρ, G, a, q⟩ => lc_read2 hf hj hk a q
theorem set_read {K : PySem.W.Frag} {hd as : List Addr} {ρ : Ev} {G : Gh} {σ : St} {H : Hp} {Z : Ends} {i : Nat} {m : Ev → M Vl} (a : At K hd as ρ G σ H) (q : ResS K hd W as G H (setS i m ρ G) Z) : Res K hd W σ as G H (m ρ G) fun x H1 => gName i x σ H1 Z.nx :=
  (thenS_mid a q).mono fun v H1 ⟨as1, G1, x, e1, a1, r1, q1⟩ => q1 as1 H1 _ (Ext.refl _ _ _ _) (a1.set r1)
theorem q_setLc {i : Nat} {y : Str} {py spos : Pos} (hf : Ends1 f) (hj : ∀ j ∈ js, j ∈ own.map (·.2)) (hc : X.calm = true) (hN : X.N.Nodup) (hy : X.N[i]? = some y) (hyl : X.env.scope.names.lookup y = some .local)
    (hsw : swapsWith (.ListComp elt [⟨tg, iter, ifs, 0⟩] scope pos) (some (.Name y py)) spos.line X.env = pure true) (hi : QI X W tg iter mi) (ok : BlkOk X.N X.env.scope scope own)
    (hg : ∀ (s : Shared) (H : Hp) (C : Addr) (cl : List (Str × Addr)) (fp : List Addr), QG (X.blk s H scope (compEnvC scope cl C X.env) fp) tg js g) (ht : ∀ (s : Shared) (H : Hp) (C : Addr) (cl : List (Str × Addr)) (fp : List Addr), QTs (X.blk s H scope (compEnvC scope cl C X.env) fp) W0 ifs t)
    (he : ∀ (s : Shared) (H : Hp) (C : Addr) (cl : List (Str × Addr)) (fp : List Addr), QE (X.blk s H scope (compEnvC scope cl C X.env) fp) W0 elt m) (hs : ∀ x, foldedSetIterable iter X.env x = pure x := by intro _; rfl) :
    QS X W (.Assign [.Name y py] (.ListComp elt [⟨tg, iter, ifs, 0⟩] scope pos) spos) (setS i (finE f (lcM mi (own.map (·.2)) g t m))) :=
  (ps_setLc hc hN hy hyl hsw hi ok hg ht he hs).imp fun Z σ H ⟨hd, as, ρ, G, a, q⟩ => lc_read hf hj a (set_read a q)
theorem q_setLc2 {i : Nat} {y : Str} {py spos : Pos} (hf : Ends1 f) (hj : ∀ j ∈ js, j ∈ own.map (·.2)) (hk : ∀ j ∈ ks, j ∈ vs1) (hc : X.calm = true) (hN : X.N.Nodup) (hy : X.N[i]? = some y) (hyl : X.env.scope.names.lookup y = some .local)
    (hsw : swapsWith (.ListComp elt [⟨tg, iter, ifs, 0⟩, ⟨tg1, iter1, ifs1, 0⟩] scope pos) (some (.Name y py)) spos.line X.env = pure true) (hi : QI X W tg iter mi) (ok : BlkOk X.N X.env.scope scope own) (hv : ∀ i ∈ vs1, i ∈ own.map (·.2))
    (hg : ∀ (s : Shared) (H : Hp) (C : Addr) (cl : List (Str × Addr)) (fp : List Addr), QG (X.blk s H scope (compEnvC scope cl C X.env) fp) tg js g) (ht : ∀ (s : Shared) (H : Hp) (C : Addr) (cl : List (Str × Addr)) (fp : List Addr), QTs (X.blk s H scope (compEnvC scope cl C X.env) fp) W0 ifs t)
    (hi1 : ∀ (s : Shared) (H : Hp) (C : Addr) (cl : List (Str × Addr)) (fp : List Addr), QI (X.blk s H scope (compEnvC scope cl C X.env) fp) W0 tg1 iter1 mi1)
    (hg1 : ∀ (s : Shared) (H : Hp) (C : Addr) (cl : List (Str × Addr)) (fp : List Addr), QG (X.blk s H scope (compEnvC scope cl C X.env) fp) tg1 ks g1) (ht1 : ∀ (s : Shared) (H : Hp) (C : Addr) (cl : List (Str × Addr)) (fp : List Addr), QTs (X.blk s H scope (compEnvC scope cl C X.env) fp) W0 ifs1 t1)
    (he : ∀ (s : Shared) (H : Hp) (C : Addr) (cl : List (Str × Addr)) (fp : List Addr), QE (X.blk s H scope (compEnvC scope cl C X.env) fp) W0 elt m) (hs : ∀ x, foldedSetIterable iter X.env x = pure x := by intro _; rfl) (hs1 : ∀ env x, foldedSetIterable iter1 env x = pure x := by intro _ _; rfl) :
    QS X W (.Assign [.Name y py] (.ListComp elt [⟨tg, iter, ifs, 0⟩, ⟨tg1, iter1, ifs1, 0⟩] scope pos) spos) (setS i (finE f (lcM2 mi (own.map (·.2)) g t mi1 vs1 g1 t1 m))) :=
  (ps_setLc2 hc hN hy hyl hsw hi ok hv hg ht hi1 hg1 ht1 he hs hs1).imp fun Z σ H ⟨hd, as, ρ, G, a, q⟩ => lc_read2 hf hj hk a (set_read a q)
end
end DL
end L2

/-! DL16: built-in functions -/
namespace L2
namespace DL
open PySem PySem.Spec PyProof.Rows
variable [HasW]
/-- a rule by values as a call's reading -/
def lowC (K : PySem.W.Frag) (op : OA) : List V → Hp → VK → Prop := fun xs H Q => ∃ hd as G a, Wd K hd as G H ∧ RelVls K as (Fz hd as G H) a xs ∧ ResO K hd as G H (op a G) Q
section
variable {X : Cx} {W : WX} {pos p : Pos} {e : Expr} {es : List Expr} {x : Str} {m : Ev → M (List Vl)} {op : OA} {id T : String}
theorem CallL.callR {f : Value} (h : CallL X f op) : CallR X f (lowC X.K op) := fun pins s σ H xs us Q I r ⟨hd, as, G, a, w, ra, q⟩ => h pins s σ H xs us Q hd as G a I r w ra q
theorem CallL.of {f : Value} {r : List V → Hp → VK → Prop} (h : CallR X f r) (k : ∀ hd as G H a xs Q, Wd X.K hd as G H → RelVls X.K as (Fz hd as G H) a xs → ResO X.K hd as G H (op a G) Q → r xs H Q) : CallL X f op :=
  fun pins s σ H xs us Q hd as G a I rv w ra q => h pins s σ H xs us Q I rv (k hd as G H a xs Q w ra q)
theorem q_callB (hc : CallL X (.builtin id) op) (hg : Gl X x) (hm : X.mg x = none) (hv : bootBuiltins x = some (.builtin id)) (ha : QA X W (e :: es) m) (hn : x ≠ "__name__" := by decide) (hdb : (x == ("__debug__" : Str)) = false := by decide)
    (he : starEach (e :: es) X.env = (false, eval e X.env) :: starEach es X.env := by rfl) (hpl : (backTo pos (starEach es X.env)).any (·.1) = false := by rfl) : QE X W (.Call (.Name x p) (e :: es) [] pos) (callE op m) :=
  (pe_callB hc.callR hg hm hv ha hn hdb he hpl).imp fun σ H Q ⟨hd, as, ρ, G, a, q⟩ => ⟨hd, as, ρ, G, a, (ResA.bind q).mono fun vs H1 ⟨as1, G1, xs, e1, w1, r1, q1⟩ => ⟨hd, as1, G1, xs, w1, r1, Res.ofO q1⟩⟩
theorem q_callTy (hc : CallL X (.type T) op) (hg : Gl X x) (hm : X.mg x = none) (hv : bootBuiltins x = some (.type T)) (ha : QA X W (e :: es) m) (hn : x ≠ "__name__" := by decide) (hdb : (x == ("__debug__" : Str)) = false := by decide)
    (he : starEach (e :: es) X.env = (false, eval e X.env) :: starEach es X.env := by rfl) (hpl : (backTo pos (starEach es X.env)).any (·.1) = false := by rfl) : QE X W (.Call (.Name x p) (e :: es) [] pos) (callE op m) :=
  (pe_callTy hc.callR hg hm hv ha hn hdb he hpl).imp fun σ H Q ⟨hd, as, ρ, G, a, q⟩ => ⟨hd, as, ρ, G, a, (ResA.bind q).mono fun vs H1 ⟨as1, G1, xs, e1, w1, r1, q1⟩ => ⟨hd, as1, G1, xs, w1, r1, Res.ofO q1⟩⟩
end
/-- of one argument -/
def oneO (f : Vl → Gh → Option (Vl × Gh)) : OA := fun xs G => match xs with
  | [x] => f x G
  | _ => none
def twoO (f : Vl → Vl → Gh → Option (Vl × Gh)) : OA := fun xs G => match xs with
  | [x, y] => f x y G
  | _ => none
section
variable {X : Cx} {f : Value}
theorem one_of {r : List V → Hp → VK → Prop} {g : Vl → Gh → Option (Vl × Gh)} (h : CallR X f r) (k : ∀ hd as G H a x Q, Wd X.K hd as G H → RelVl X.K as (Fz hd as G H) a x → ResO X.K hd as G H (g a G) Q → r [x] H Q) : CallL X f (oneO g) :=
  CallL.of h fun hd as G H a xs Q w ra q => by
    cases ra with
    | nil => exact q.elim
    | cons r1 r2 =>
      cases r2 with
      | nil => exact k hd as G H _ _ Q w r1 q
      | cons _ _ => exact q.elim
theorem two_of {r : List V → Hp → VK → Prop} {g : Vl → Vl → Gh → Option (Vl × Gh)} (h : CallR X f r) (k : ∀ hd as G H a b x y Q, Wd X.K hd as G H → RelVl X.K as (Fz hd as G H) a x → RelVl X.K as (Fz hd as G H) b y → ResO X.K hd as G H (g a b G) Q → r [x, y] H Q) : CallL X f (twoO g) :=
  CallL.of h fun hd as G H a xs Q w ra q => by
    cases ra with
    | nil => exact q.elim
    | cons r1 r2 =>
      cases r2 with
      | nil => exact q.elim
      | cons r2 r3 =>
        cases r3 with
        | nil => exact k hd as G H _ _ _ _ Q w r1 r2 q
        | cons _ _ => exact q.elim
/-! ### numbers -/
def absO : Vl → Gh → Option (Vl × Gh) := fun x G => match x with
  | .dat (.int i) => some (.dat (.int (if i < 0 then -i else i)), G)
  | _ => none
theorem cl_abs : CallL X (.builtin "abs") (oneO absO) := one_of call_abs fun hd as G H a x Q w ra q => by
  unfold absO at q
  split at q
  · cases ra; exact ⟨_, rfl, ResO.dat w (RelD.int _) q⟩
  · exact q.elim
def intO : Vl → Gh → Option (Vl × Gh) := fun x G => match x with
  | .dat (.int i) => some (.dat (.int i), G)
  | .dat (.bl b) => some (.dat (.int (if b then 1 else 0)), G)
  | _ => none
theorem cl_int : CallL X (.type "int") (oneO intO) := one_of call_int1 fun hd as G H a x Q w ra q => by
  unfold intO at q
  split at q
  · cases ra; exact .inl ⟨_, rfl, ResO.dat w (RelD.int _) q⟩
  · cases ra; exact .inr ⟨_, rfl, ResO.dat w (RelD.int _) q⟩
  · exact q.elim
def strO : Vl → Gh → Option (Vl × Gh) := fun x G => match x with
  | .dat (.int i) => if i.natAbs.log2 < 1920 then some (.dat (.str (toString i)), G) else none
  | _ => none
theorem cl_str : CallL X (.type "str") (oneO strO) := one_of call_str_int fun hd as G H a x Q w ra q => by
  unfold strO at q
  split at q
  · split at q
    · rename_i h; cases ra; exact ⟨_, rfl, h, ResO.dat w (RelD.str _) q⟩
    · exact q.elim
  · exact q.elim
def maxO : Vl → Vl → Gh → Option (Vl × Gh) := fun x y G => match x, y with
  | .dat (.int i), .dat (.int j) => some (.dat (.int (if j > i then j else i)), G)
  | _, _ => none
def minO : Vl → Vl → Gh → Option (Vl × Gh) := fun x y G => match x, y with
  | .dat (.int i), .dat (.int j) => some (.dat (.int (if j < i then j else i)), G)
  | _, _ => none
theorem cl_max (hc : X.calm = true) : CallL X (.builtin "max") (twoO maxO) := two_of (call_max2 hc) fun hd as G H a b x y Q w ra rb q => by
  unfold maxO at q
  split at q
  · cases ra; cases rb; exact ⟨_, _, rfl, ResO.dat w (RelD.int _) q⟩
  · exact q.elim
theorem cl_min (hc : X.calm = true) : CallL X (.builtin "min") (twoO minO) := two_of (call_min2 hc) fun hd as G H a b x y Q w ra rb q => by
  unfold minO at q
  split at q
  · cases ra; cases rb; exact ⟨_, _, rfl, ResO.dat w (RelD.int _) q⟩
  · exact q.elim
/-! ### len -/
def lenN : Vl → Gh → Option Nat := fun x G => match x with
  | .dat (.str z) => if z.length ≤ sizeLine then some z.length else none
  | .dat (.dct l) => some l.length
  | .ref i => (match G[i]? with
    | some (.lst l) => some l.length
    | some (.dct l) => some l.length
    | _ => none)
  | _ => (seqKind x G).map (·.2)
def lenO : Vl → Gh → Option (Vl × Gh) := fun x G => (lenN x G).map fun n => (.dat (.int n), G)
theorem CallR.or {r r' : List V → Hp → VK → Prop} (h : CallR X f r) (h' : CallR X f r') : CallR X f (fun xs H Q => r xs H Q ∨ r' xs H Q) := fun pins s σ H xs us Q I rv q => q.elim (h pins s σ H xs us Q I rv) (h' pins s σ H xs us Q I rv)
theorem dkLen : CallR X (.builtin "len") (fun xs H Q => ∃ a kvs, xs = [V.ref a] ∧ Rd H a (.dK kvs) ∧ Q (.int kvs.length) H) := by
  intro pins s σ H xs us Q I r ⟨a, kvs, ex, hd, q⟩
  subst ex
  cases r with
  | cons rx rn =>
    cases rn
    cases rx
    exact d_len I hd fun t s' I' => ⟨.int kvs.length, H, I', ⟨t, rfl⟩, q⟩
theorem lenN_seq {K : PySem.W.Frag} {hd as : List Addr} {G : Gh} {H : Hp} {a : Vl} {v : V} {b : Bool} {n : Nat} (w : Wd K hd as G H) (ra : RelVl K as (Fz hd as G H) a v) (h : seqKind a G = some (b, n)) : ∃ p ys, v = .ref p ∧ (SqL K H p ys ∨ SqT K H p ys) ∧ ys.length = n := by
  cases b with
  | true =>
    obtain ⟨p, e, k⟩ := seq_lst (n := n) ra h
    obtain ⟨xs, h1, h2, _⟩ := k hd as G H (Ext.refl _ _ _ _).later w (seq_fin h)
    exact ⟨p, xs, e, .inl h1, h2⟩
  | false =>
    obtain ⟨p, e, k⟩ := seq_tup (n := n) ra h
    obtain ⟨xs, h1, h2, _⟩ := k hd as G H (Ext.refl _ _ _ _).later w (seq_fin h)
    exact ⟨p, xs, e, .inr h1, h2⟩
theorem cl_len : CallL X (.builtin "len") (oneO lenO) := one_of (CallR.or call_len dkLen) fun hd as G H a x Q w ra q => by
  unfold lenO at q
  cases e : lenN a G with
  | none => rw [e] at q; exact q.elim
  | some n =>
    rw [e] at q
    have fin : ∀ m : Nat, m = n → Q (.int m) H := fun m h => by rw [h]; exact ResO.dat w (RelD.int _) q
    unfold lenN at e
    split at e
    · rename_i z
      split at e
      · rename_i hz
        cases e; cases ra
        exact .inl ⟨_, _, rfl, ⟨hz, rfl⟩, fin _ rfl⟩
      · cases e
    · rename_i l
      cases e
      cases ra with
      | @dct _ p kvs h1 h2 h3 =>
        have hl := congrArg List.length h2
        simp only [List.length_map] at hl
        exact .inr ⟨p, kvs, rfl, Fz.rd h1, fin _ hl.symm⟩
    · rename_i i
      obtain ⟨p, hp, rfl⟩ := ra
      split at e
      · rename_i l eg
        cases e
        obtain ⟨xs, h1, h2⟩ := w.at eg hp
        exact .inl ⟨_, _, rfl, .inl ⟨xs, .inl (.inl h1), rfl⟩, fin _ (Paired.length h2).symm⟩
      · rename_i l eg
        cases e
        obtain ⟨kvs, h1, h2, _⟩ := w.at eg hp
        have hl := congrArg List.length h2
        simp only [List.length_map] at hl
        exact .inr ⟨p, kvs, rfl, .inl h1, fin _ hl.symm⟩
      · cases e
    · obtain ⟨⟨b, k⟩, h1, h2⟩ := Option.map_eq_some_iff.mp e
      obtain ⟨p, ys, rfl, h3, h4⟩ := lenN_seq w ra h1
      simp only at h2
      rcases h3 with h3 | h3
      · exact .inl ⟨_, _, rfl, .inl ⟨ys, h3, rfl⟩, fin _ (by omega)⟩
      · exact .inl ⟨_, _, rfl, .inr ⟨ys, h3, rfl⟩, fin _ (by omega)⟩
/-! ### all, any -/
def boolsOf : List D → Option (List Bool)
  | [] => some []
  | .bl b :: r => (boolsOf r).map (b :: ·)
  | _ :: _ => none
theorem boolsOf_rel {K : PySem.W.Frag} {F : Hp} : ∀ {ds : List D} {bs : List Bool} {vs : List V}, boolsOf ds = some bs → RelDs K F ds vs → vs = bs.map V.bl
  | [], bs, vs, h, r => by cases h; cases r; rfl
  | d :: ds, bs, vs, h, r => by
    cases r with
    | cons r1 r2 =>
      cases d with
      | bl b =>
        obtain ⟨cs, h1, rfl⟩ := Option.map_eq_some_iff.mp h
        cases r1
        rw [boolsOf_rel h1 r2]; rfl
      | _ => cases h
def allO : Vl → Gh → Option (Vl × Gh) := fun x G => ((listD x G).bind boolsOf).map fun bs => (.dat (.bl (bs.all id)), G)
def anyO : Vl → Gh → Option (Vl × Gh) := fun x G => ((listD x G).bind boolsOf).map fun bs => (.dat (.bl (bs.any id)), G)
theorem bools_low {K : PySem.W.Frag} {hd as : List Addr} {G : Gh} {H : Hp} {a : Vl} {x : V} {bs : List Bool} (w : Wd K hd as G H) (ra : RelVl K as (Fz hd as G H) a x) (h : (listD a G).bind boolsOf = some bs) : ∃ p, x = .ref p ∧ SqL K H p (bs.map V.bl) := by
  obtain ⟨l, h1, h2⟩ := Option.bind_eq_some_iff.mp h
  obtain ⟨p, xs, e, h3, h4⟩ := listD_rel w ra h1
  rw [boolsOf_rel h2 h4] at h3
  exact ⟨p, e, .inl h3⟩
theorem cl_all (hc : X.calm = true) : CallL X (.builtin "all") (oneO allO) := one_of (cr_all hc) fun hd as G H a x Q w ra q => by
  unfold allO at q
  cases e : (listD a G).bind boolsOf with
  | none => rw [e] at q; exact q.elim
  | some bs =>
    rw [e] at q
    obtain ⟨p, e1, h1⟩ := bools_low w ra e
    exact ⟨p, bs, by rw [e1], h1, ResO.dat w (RelD.bl _) q⟩
theorem cl_any (hc : X.calm = true) : CallL X (.builtin "any") (oneO anyO) := one_of (cr_any hc) fun hd as G H a x Q w ra q => by
  unfold anyO at q
  cases e : (listD a G).bind boolsOf with
  | none => rw [e] at q; exact q.elim
  | some bs =>
    rw [e] at q
    obtain ⟨p, e1, h1⟩ := bools_low w ra e
    exact ⟨p, bs, by rw [e1], h1, ResO.dat w (RelD.bl _) q⟩
/-! ### list, tuple -/
/-- what is listed: the items of a list, of a tuple; the keys of a dict -/
def keysD : List D → Option (List Key)
  | [] => some []
  | d :: r => match keyOf d, keysD r with
    | some k, some ks => some (k :: ks)
    | _, _ => none
def seqDat (x : Vl) (G : Gh) : Option (Bool × List D) := match listD x G with
  | some l => some (true, l)
  | none => (tupD x).map fun l => (false, l)
theorem seqDat_rel {K : PySem.W.Frag} {hd as : List Addr} {G : Gh} {H : Hp} {a : Vl} {x : V} {b : Bool} {l : List D} (w : Wd K hd as G H) (ra : RelVl K as (Fz hd as G H) a x) (h : seqDat a G = some (b, l)) :
    ∃ p ys, x = .ref p ∧ (if b = true then SqL K H p ys else SqT K H p ys) ∧ RelDs K (Fz hd as G H) l ys := by
  unfold seqDat at h
  split at h
  · rename_i e
    cases h
    obtain ⟨p, xs, e1, h3, h4⟩ := listD_rel w ra e
    exact ⟨p, xs, e1, by simpa using .inl h3, h4⟩
  · obtain ⟨l', h1, h2⟩ := Option.map_eq_some_iff.mp h
    cases h2
    obtain ⟨p, xs, e1, h3, h4⟩ := tupD_rel ra h1
    exact ⟨p, xs, e1, by simpa using h3, h4⟩
/-- list(x), data -/
def listF : Vl → Gh → Option (Vl × Gh) := fun x G => (seqDat x G).map fun p => (.dat (.lst p.2), G)
/-- list(x), a cell -/
def listC : Vl → Gh → Option (Vl × Gh) := fun x G => (seqDat x G).map fun p => (.ref G.length, G ++ [.lst (p.2.map .dat)])
def tupleO : Vl → Gh → Option (Vl × Gh) := fun x G => (seqDat x G).map fun p => (.dat (.tup p.2), G)
theorem ResO.cel {K : PySem.W.Frag} {hd as : List Addr} {G : Gh} {H : Hp} {l : List D} {ys : List V} {p : Addr} {Q : VK} (w : Wd K hd as G H) (r : RelDs K (Fz hd as G H) l ys) (hp : H p = none) (h : ResO K hd as G H (some (.ref G.length, G ++ [.lst (l.map .dat)])) Q) : Q (.ref p) (upd H p (.lst ys)) := by
  obtain ⟨w2, e2⟩ := w.cellNew (go := .lst (l.map .dat)) (o := .lst ys) hp (fun F k => ⟨ys, upd_same, rels_map (r.mono k)⟩) rfl
  exact h _ _ (.ref p) e2 w2 ⟨p, by rw [← w.len]; simp, rfl⟩
theorem cl_list : CallL X (.type "list") (oneO listF) := one_of call_list_of fun hd as G H a x Q w ra q => by
  unfold listF at q
  cases e : seqDat a G with
  | none => rw [e] at q; exact q.elim
  | some p =>
    obtain ⟨b, l⟩ := p
    rw [e] at q
    obtain ⟨p, ys, e1, h1, h2⟩ := seqDat_rel w ra e
    refine ⟨p, ys, by rw [e1], ?_, fun z hz => ResO.new w q hz fun F k f => .lst (.inl f) (h2.mono k)⟩
    cases b
    · exact .inr (by simpa using h1)
    · exact .inl (by simpa using h1)
theorem cl_listC : CallL X (.type "list") (oneO listC) := one_of call_list_of fun hd as G H a x Q w ra q => by
  unfold listC at q
  cases e : seqDat a G with
  | none => rw [e] at q; exact q.elim
  | some p =>
    obtain ⟨b, l⟩ := p
    rw [e] at q
    obtain ⟨p, ys, e1, h1, h2⟩ := seqDat_rel w ra e
    refine ⟨p, ys, by rw [e1], ?_, fun z hz => ResO.cel w h2 hz q⟩
    cases b
    · exact .inr (by simpa using h1)
    · exact .inl (by simpa using h1)
theorem cl_tuple : CallL X (.type "tuple") (oneO tupleO) := one_of call_tuple_of fun hd as G H a x Q w ra q => by
  unfold tupleO at q
  cases e : seqDat a G with
  | none => rw [e] at q; exact q.elim
  | some p =>
    obtain ⟨b, l⟩ := p
    rw [e] at q
    have e0 := e
    obtain ⟨p, ys, e1, h1, h2⟩ := seqDat_rel w ra e
    cases b
    · refine ⟨p, ys, by rw [e1], .inr ⟨by simpa using h1, ?_⟩⟩
      have hx : a = .dat (.tup l) := by
        unfold seqDat at e0
        split at e0
        · cases e0
        · obtain ⟨l', h3, h4⟩ := Option.map_eq_some_iff.mp e0
          cases h4
          unfold tupD at h3
          split at h3
          · cases h3; rfl
          · cases h3
      subst hx
      rw [← e1]
      exact ResO.dat w ra q
    · exact ⟨p, ys, by rw [e1], .inl ⟨by simpa using h1, fun z hz => ResO.new w q hz fun F k f => .tup (SqT.of f) (h2.mono k)⟩⟩
/-! ### isinstance -/
inductive KD where
  | non | bl | int | str | tup | lst | dct | own (c : Str)
def kdOf (x : Vl) (G : Gh) : Option KD := match x with
  | .dat .non => some .non
  | .dat (.bl _) => some .bl
  | .dat (.int _) => some .int
  | .dat (.str _) => some .str
  | .dat (.tup _) => some .tup
  | .dat (.lst _) => some .lst
  | .dat (.dct _) => some .dct
  | .dat (.dcN _) => none
  | .dat (.set _) => none
  | .dat (.obj c _) => some (.own c)
  | .dat (.exc _ _) => none
  | .pr _ _ => some .tup
  | .ref i => match G[i]? with
    | some (.lst _) => some .lst
    | some (.dct _) => some .dct
    | some (.ins c _) => some (.own c)
    | _ => none
def kdV (K : PySem.W.Frag) : KD → Value
  | .non => .type "NoneType"
  | .bl => .type "bool"
  | .int => .type "int"
  | .str => .type "str"
  | .tup => .type "tuple"
  | .lst => .type "list"
  | .dct => .type "dict"
  | .own c => .ref (He.ga K c)
/-- the class c of one's own: what its instances' class is asked for -/
structure OwnC (K : PySem.W.Frag) (c : Str) : Prop where
  cl : Cls K (He.ga K c)
  ha : PySem.W.findIn K (.ref (He.ga K c)) "__class__" = some (some (.builtin "object.__class__"))
  hn : PySem.W.specialIn K (.builtin "object.__class__") "__get__" = some (some (.builtin "getset_descriptor.__get__"))
  tk : PySem.W.takesIn K (.builtin "object.__class__") = some true
  mo : PySem.W.mroIn K (He.ga K c) (.type "object") = some true
theorem tyT {K : PySem.W.Frag} {H : Hp} {a : Addr} {xs : List V} (h : SqT K H a xs) : TyX K H (.ref a) (.type "tuple") := by
  rcases h with (h | ⟨o, h⟩) | ⟨o, its, n, h1, h2, _⟩
  · exact .base (.tup h)
  · exact .fTuple h
  · exact .kTuple h1 h2
theorem kd_ty {K : PySem.W.Frag} {hd as : List Addr} {G : Gh} {H : Hp} {a : Vl} {x : V} {k : KD} (w : Wd K hd as G H) (ra : RelVl K as (Fz hd as G H) a x) (h : kdOf a G = some k) (ho : ∀ c, k = .own c → OwnC K c) : TyX K H x (kdV K k) := by
  cases a with
  | dat d =>
    cases d with
    | non => cases h; cases ra; exact .base .non
    | bl b => cases h; cases ra; exact .base (.bl _)
    | int i => cases h; cases ra; exact .base (.int _)
    | str z => cases h; cases ra; exact .base (.str _)
    | tup l => cases h; cases ra with | tup h1 h2 => exact tyT (Fz.sqT h1)
    | lst l =>
      cases h
      cases ra with
      | lst h1 h2 =>
        rcases Fz.rd h1 with h | ⟨o, h⟩
        · exact .base (.lst h)
        · exact .base (.frz h)
    | dct l =>
      cases h
      cases ra with
      | dct h1 h2 h3 =>
        rcases Fz.rd h1 with h | ⟨o, h⟩
        · exact .base (.dK h)
        · exact .fDict h
    | dcN l => cases h
    | set l => cases h
    | obj c fs =>
      cases h
      have o := ho c rfl
      cases ra with
      | obj h1 h2 h3 => exact .base (.ins (Fz.of h1) o.cl o.ha o.hn o.tk o.mo)
    | exc c d => cases h
  | pr d i =>
    cases h
    obtain ⟨p, u, b, rfl, h1, _⟩ := ra
    exact tyT (Fz.sqT h1)
  | ref i =>
    obtain ⟨p, hp, rfl⟩ := ra
    unfold kdOf at h
    cases eg : G[i]? with
    | none => simp [eg] at h
    | some go =>
      cases go with
      | lst l =>
        have hk : k = .lst := by simpa [eg] using h.symm
        subst hk
        obtain ⟨xs, h1, _⟩ := w.at eg hp
        exact .base (.lst h1)
      | dct l =>
        have hk : k = .dct := by simpa [eg] using h.symm
        subst hk
        obtain ⟨xs, h1, _⟩ := w.at eg hp
        exact .base (.dK h1)
      | ins c fs =>
        have hk : k = .own c := by simpa [eg] using h.symm
        subst hk
        have o := ho c rfl
        obtain ⟨dx, vs, h1, _⟩ := w.at eg hp
        exact .base (.ins h1 o.cl o.ha o.hn o.tk o.mo)
      | dcN l => simp [eg] at h
      | gone => simp [eg] at h
/-- what isinstance tells of each kind -/
structure IsT (K : PySem.W.Frag) (u : Value) (f : KD → Option Bool) : Prop where
  tell : ∀ k b, f k = some b → PySem.W.kitOne K (kdV K k) u = some b ∧ ∀ c, k = .own c → OwnC K c
def isiE (f : KD → Option Bool) (m : Ev → M Vl) : Ev → M Vl := fun ρ => andThen (m ρ) fun x G => match (kdOf x G).bind f with
  | some b => .ok (.dat (.bl b)) G
  | none => .no
theorem q_isi {W : WX} {e c : Expr} {m : Ev → M Vl} {cv : V} {u : Value} {g : KD → Option Bool} {p pos : Pos} (hg : Gl X "isinstance") (hm : X.mg "isinstance" = none) (he : QE X W e m) (hc : PE X c (tC cv)) (cu : ClsV cv u) (t : IsT X.K u g)
    (h1 : starEach [e, c] X.env = (false, eval e X.env) :: starEach [c] X.env := by rfl) (h2 : starEach [c] X.env = (false, eval c X.env) :: starEach [] X.env := by rfl) (hpl : (backTo pos (starEach [c] X.env)).any (·.1) = false := by rfl) :
    QE X W (.Call (.Name "isinstance" p) [e, c] [] pos) (isiE g m) :=
  (pe_callB call_isi hg hm boot_isinstance (pa_cons he (pa_cons hc pa_nil h2) h1) (by decide) (by decide) h1 hpl).imp fun σ H Q ⟨hd, as, ρ, G, a, q⟩ => ⟨hd, as, ρ, G, a, (Res.bind q).mono fun v H1 ⟨as1, G1, x, e1, w1, r1, q1⟩ => by
    cases ek : (kdOf x G1).bind g with
    | none => rw [ek] at q1; exact q1.elim
    | some b =>
      rw [ek] at q1
      obtain ⟨k, h3, h4⟩ := Option.bind_eq_some_iff.mp ek
      obtain ⟨t1, t2⟩ := t.tell k b h4
      exact ⟨v, cv, _, u, b, rfl, cu, kd_ty w1 r1 h3 t2, t1, q1 as1 H1 (.bl b) (Ext.refl _ _ _ _) w1 (RelD.bl b)⟩⟩
end
end DL
end L2

/-! DL17: methods of lists, texts, dicts; tables of isinstance -/
namespace L2
namespace DL
open PySem PySem.Spec PyProof.Rows
variable [HasW]
def lowM (K : PySem.W.Frag) (op : Vl → OA) : V → List V → Hp → VK → Prop := fun x xs H Q => ∃ hd as G y a, Wd K hd as G H ∧ RelVl K as (Fz hd as G H) y x ∧ RelVls K as (Fz hd as G H) a xs ∧ ResO K hd as G H (op y a G) Q
/-- lists and texts by their kind -/
def isList (x : Vl) (G : Gh) : Bool := match seqKind x G with
  | some (true, _) => true
  | _ => false
def isStr : Vl → Gh → Bool := fun x _ => match x with
  | .dat (.str _) => true
  | _ => false
def mtE (k : Vl → Gh → Bool) (op : Vl → OA) (m : Ev → M Vl) (r : Ev → M (List Vl)) : Ev → M Vl := fun ρ => andThen (m ρ) fun y G => if k y G = true then andThen (r ρ) (fun xs G => ofO (op y xs G)) G else .no
def TyK (K : PySem.W.Frag) (T : String) (k : Vl → Gh → Bool) : Prop := ∀ hd as G H y x, Wd K hd as G H → RelVl K as (Fz hd as G H) y x → k y G = true → tyV K T x H
theorem tyk_list {K : PySem.W.Frag} : TyK K "list" isList := fun hd as G H y x w r h => by
  unfold isList at h
  split at h
  · rename_i n e
    obtain ⟨p, e1, k⟩ := seq_lst (n := n) r e
    obtain ⟨xs, h1, _⟩ := k hd as G H (Ext.refl _ _ _ _).later w (seq_fin e)
    subst e1
    exact .inl ⟨rfl, xs, h1⟩
  · cases h
theorem tyk_str {K : PySem.W.Frag} : TyK K "str" isStr := fun hd as G H y x w r h => by
  unfold isStr at h
  split at h
  · cases r; rfl
  · cases h
section
variable {X : Cx} {W : WX} {o e : Expr} {es : List Expr} {m : Ev → M Vl} {r : Ev → M (List Vl)} {name : Str} {apos cpos : Pos} {T id : String} {op : Vl → OA} {k : Vl → Gh → Bool}
theorem MtL.of {rr : V → List V → Hp → VK → Prop} (h : MtR X id rr) (kk : ∀ hd as G H y a x xs Q, Wd X.K hd as G H → RelVl X.K as (Fz hd as G H) y x → RelVls X.K as (Fz hd as G H) a xs → ResO X.K hd as G H (op y a G) Q → rr x xs H Q) : MtR X id (lowM X.K op) :=
  fun pins s σ H x xs v us Q I rx rv ⟨hd, as, G, y, a, w, ry, ra, q⟩ => h pins s σ H x xs v us Q I rx rv (kk hd as G H y a x xs Q w ry ra q)
theorem q_bm (tk : TyK X.K T k) (pa : PlainAttrs T) (slot : Slot T name id) (hty : typeOf (.builtin id) = pure (.type "method_descriptor")) (hm : MtR X id (lowM X.K op)) (ho : QE X W o m) (ha : QA X W (e :: es) r)
    (hbase : attributeBase o name X.env (eval o X.env) = eval o X.env := by rfl)
    (hfew : ((backTo cpos (starEach (e :: es) X.env)).all (fun x => !x.1) && (backToKw cpos (keywordEach [] X.env)).all (fun x => x.1.isSome)
      && decide ((e :: es).length + ([] : List Keyword).length + (if ([] : List Keyword).isEmpty then 0 else 1) < 30)) = true := by rfl)
    (hline : (apos.endLine == cpos.line) = true := by rfl) (hs : starEach (e :: es) X.env = (false, eval e X.env) :: starEach es X.env := by rfl) (hplain : (backTo cpos (starEach es X.env)).any (·.1) = false := by rfl) :
    QE X W (.Call (.Attribute o name apos) (e :: es) [] cpos) (mtE k op m r) :=
  (pe_bm pa slot hty hm ho ha hbase hfew hline hs hplain).imp fun σ H Q ⟨hd, as, ρ, G, a, q⟩ => ⟨hd, as, ρ, G, a, (Res.bind q).mono fun v H1 ⟨as1, G1, x, e1, w1, r1, q1⟩ => by
    by_cases hk : k x G1 = true
    · simp only [if_pos hk] at q1
      refine ⟨tk hd as1 G1 H1 x v w1 r1 hk, hd, as1, ρ, G1, a.ext e1 w1, (ResA.bind q1).mono fun vs H2 ⟨as2, G2, xs, e2, w2, r2, q2⟩ => ⟨hd, as2, G2, x, xs, w2, r1.ext e2, r2, Res.ofO q2⟩⟩
    · simp only [if_neg hk] at q1; exact q1.elim⟩
theorem q_bm0 (tk : TyK X.K T k) (pa : PlainAttrs T) (slot : Slot T name id) (hty : typeOf (.builtin id) = pure (.type "method_descriptor")) (hm : MtR X id (lowM X.K op)) (ho : QE X W o m)
    (hbase : attributeBase o name X.env (eval o X.env) = eval o X.env := by rfl) (hline : (apos.endLine == cpos.line) = true := by rfl) : QE X W (.Call (.Attribute o name apos) [] [] cpos) (mtE k op m nilA) :=
  (pe_bm0 pa slot hty hm ho hbase hline).imp fun σ H Q ⟨hd, as, ρ, G, a, q⟩ => ⟨hd, as, ρ, G, a, (Res.bind q).mono fun v H1 ⟨as1, G1, x, e1, w1, r1, q1⟩ => by
    by_cases hk : k x G1 = true
    · simp only [if_pos hk] at q1
      exact ⟨tk hd as1 G1 H1 x v w1 r1 hk, hd, as1, G1, x, [], w1, r1, .nil, Res.ofO q1⟩
    · simp only [if_neg hk] at q1; exact q1.elim⟩
/-! ### lists -/
def appendO : Vl → OA := fun y a G => match y, a with
  | .ref i, [x] => (match G[i]? with
    | some (.lst l) => if l.length < sizeLine then some (.dat .non, G.set i (.lst (l ++ [x]))) else none
    | _ => none)
  | _, _ => none
def extendO : Vl → OA := fun y a G => match y, a with
  | .ref i, [x] => (match G[i]?, listD x G with
    | some (.lst l), some zs => if l.length + zs.length ≤ sizeLine then some (.dat .non, G.set i (.lst (l ++ zs.map .dat))) else none
    | _, _ => none)
  | _, _ => none
def popO : Vl → OA := fun y a G => match y with
  | .ref i => (match G[i]? with
    | some (.lst l) => (match a with
      | [.dat (.int k)] => if -(2 ^ 63) ≤ k ∧ k < 2 ^ 63 then (match seqIndex? k l.length with
        | some j => (match l[j]? with
          | some x => some (x, G.set i (.lst (l.eraseIdx j)))
          | none => none)
        | none => none) else none
      | [] => (match l[l.length - 1]? with
        | some x => some (x, G.set i (.lst l.dropLast))
        | none => none)
      | _ => none)
    | _ => none)
  | _ => none
theorem mt_extR : MtR X "list.extend" (fun x vs H Q => ∃ l b xs zs, x = .ref l ∧ vs = [.ref b] ∧ H l = some (.lst xs) ∧ Rd H b (.lst zs) ∧ xs.length + zs.length ≤ sizeLine ∧ Q .non (upd H l (.lst (xs ++ zs)))) := by
  intro pins s σ H x vs v us Q I rx rv ⟨l, b, xs, zs, ex, ev, hH, hB, hz, q⟩
  subst ex ev
  cases rx
  obtain ⟨u, rfl, ru⟩ := rv.one
  cases ru
  obtain ⟨z1, it1, n1, r1, hl1, g1⟩ := I.lstM hH
  obtain ⟨z2, it2, n2, r2, g2⟩ := (show ObjOk X.prog X.w H s.heap b (.lst zs) from hB.ok I.hok)
  have hl2 := r2.length
  have hsz : it1.toArray.size + it2.toArray.size ≤ sizeLine := by rw [List.size_toArray, List.size_toArray]; omega
  refine call_meets F.slot_list_extend ⟨_, g1, rfl⟩ F.entry_list_extend (F.args_list_extend_2 _ _)
    (AutoSeq1.list_extend_list_list_0 l it1.toArray n1 b it2.toArray n2 (by rw [notLongL hsz, Bool.and_false]; exact Bool.false_ne_true) (by rw [List.size_toArray]; omega) (by omega)) ⟨g1, g2, ?_⟩
  exact ⟨.non, _, I.lset (its' := it1 ++ it2) hH g1 (by simp) (r1.append r2) (by rw [List.length_append]; omega), rfl, q⟩
theorem ml_append : MtR X "list.append" (lowM X.K appendO) := MtL.of mt_append fun hd as G H y a x xs Q w ry ra q => by
  unfold appendO at q
  split at q
  · rename_i i z
    obtain ⟨p, hp, rfl⟩ := ry
    split at q
    · rename_i l eg
      split at q
      · rename_i hz
        obtain ⟨ys, h1, h2⟩ := w.at eg hp
        cases ra with
        | cons ra rn =>
          cases rn
          obtain ⟨w2, e2⟩ := w.upd (go' := .lst (l ++ [z])) (o' := .lst (ys ++ [_])) hp eg rfl rfl ⟨_, upd_same, Paired.snoc h2 ra⟩
          exact ⟨p, ys, _, rfl, rfl, h1, by rw [← Paired.length h2]; exact hz, q as _ .non e2 w2 RelD.non⟩
      · exact q.elim
    · exact q.elim
  · exact q.elim
theorem pair_app {α β : Type} {F : α → β → Prop} : ∀ {l1 m1 : List α} {l2 m2 : List β}, Paired F l1 l2 → Paired F m1 m2 → Paired F (l1 ++ m1) (l2 ++ m2)
  | _, _, _, _, .nil, s => s
  | _, _, _, _, .cons h r, s => .cons h (pair_app r s)
theorem pair_erase {α β : Type} {F : α → β → Prop} : ∀ {l1 : List α} {l2 : List β} (i : Nat), Paired F l1 l2 → Paired F (l1.eraseIdx i) (l2.eraseIdx i)
  | _, _, _, .nil => .nil
  | _, _, 0, .cons _ t => t
  | _, _, i + 1, .cons r t => .cons r (pair_erase i t)
theorem pair_dropLast {α β : Type} {F : α → β → Prop} : ∀ {l1 : List α} {l2 : List β}, Paired F l1 l2 → Paired F l1.dropLast l2.dropLast
  | _, _, .nil => .nil
  | _, _, .cons _ .nil => .nil
  | _, _, .cons r (.cons r2 t) => .cons r (pair_dropLast (.cons r2 t))
theorem ml_extend : MtR X "list.extend" (lowM X.K extendO) := MtL.of mt_extR fun hd as G H y a x xs Q w ry ra q => by
  unfold extendO at q
  split at q
  · rename_i i z
    obtain ⟨p, hp, rfl⟩ := ry
    cases eg : G[i]? with
    | none => simp only [eg] at q; exact q.elim
    | some go =>
      cases go with
      | lst l =>
        cases el : listD z G with
        | none => simp only [eg, el] at q; exact q.elim
        | some zs =>
          simp only [eg, el] at q
          split at q
          · rename_i hz
            obtain ⟨ys, h1, h2⟩ := w.at eg hp
            cases ra with
            | cons ra rn =>
              cases rn
              obtain ⟨b, vs, e1, h3, h4⟩ := listD_rel w ra el
              obtain ⟨w2, e2⟩ := w.upd (go' := .lst (l ++ zs.map .dat)) (o' := .lst (ys ++ vs)) hp eg rfl rfl ⟨_, upd_same, pair_app h2 (rels_map h4)⟩
              exact ⟨p, b, ys, vs, rfl, by rw [e1], h1, h3, by rw [← Paired.length h2, ← h4.length]; exact hz, q as _ .non e2 w2 RelD.non⟩
          · exact q.elim
      | _ => simp only [eg] at q; exact q.elim
  · exact q.elim
theorem MtR.or {id : String} {r1 r2 : V → List V → Hp → VK → Prop} (h : MtR X id r1) (h' : MtR X id r2) : MtR X id (fun x xs H Q => r1 x xs H Q ∨ r2 x xs H Q) := fun pins s σ H x xs v us Q I rx rv q => q.elim (h pins s σ H x xs v us Q I rx rv) (h' pins s σ H x xs v us Q I rx rv)
theorem ml_pop : MtR X "list.pop" (lowM X.K popO) := MtL.of (MtR.or mt_pop mt_popAt) fun hd as G H y a x xs Q w ry ra q => by
  unfold popO at q
  split at q
  · rename_i i
    obtain ⟨p, hp, rfl⟩ := ry
    split at q
    · rename_i l eg
      obtain ⟨ys, h1, h2⟩ := w.at eg hp
      split at q
      · rename_i k
        split at q
        · rename_i hk
          split at q
          · rename_i j ej
            split at q
            · rename_i z ez
              obtain ⟨u, hu, ru⟩ := paired_get h2 ez
              obtain ⟨w2, e2⟩ := w.upd (go' := .lst (l.eraseIdx j)) (o' := .lst (ys.eraseIdx j)) hp eg rfl rfl ⟨_, upd_same, pair_erase j h2⟩
              cases ra with
              | cons ra rn =>
                cases rn
                cases ra
                exact .inr ⟨p, ys, k, j, u, rfl, rfl, h1, hk.1, hk.2, by rw [← Paired.length h2]; exact ej, hu, q as _ u e2 w2 (ru.ext e2)⟩
            · exact q.elim
          · exact q.elim
        · exact q.elim
      · split at q
        · rename_i z ez
          obtain ⟨u, hu, ru⟩ := paired_get h2 ez
          obtain ⟨w2, e2⟩ := w.upd (go' := .lst l.dropLast) (o' := .lst ys.dropLast) hp eg rfl rfl ⟨_, upd_same, pair_dropLast h2⟩
          cases ra
          exact .inl ⟨p, ys, u, rfl, rfl, h1, by rw [← Paired.length h2]; exact hu, q as _ u e2 w2 (ru.ext e2)⟩
        · exact q.elim
      · exact q.elim
    · exact q.elim
  · exact q.elim
/-! ### texts -/
def strsOf : List D → Option (List Str)
  | [] => some []
  | .str z :: r => (strsOf r).map (z :: ·)
  | _ :: _ => none
theorem strsOf_rel {K : PySem.W.Frag} {F : Hp} : ∀ {ds : List D} {bs : List Str} {vs : List V}, strsOf ds = some bs → RelDs K F ds vs → vs = bs.map V.str
  | [], bs, vs, h, r => by cases h; cases r; rfl
  | d :: ds, bs, vs, h, r => by
    cases r with
    | cons r1 r2 =>
      cases d with
      | str b =>
        obtain ⟨cs, h1, rfl⟩ := Option.map_eq_some_iff.mp h
        cases r1
        rw [strsOf_rel h1 r2]; rfl
      | _ => cases h
def joinO : Vl → OA := fun y a G => match y, a with
  | .dat (.str z), [x] => (match (seqDat x G).bind fun p => strsOf p.2 with
    | some ys => if (ys.map (·.length)).sum + ys.length * z.length ≤ 16777216 then some (.dat (.str (Txt.join z ys)), G) else none
    | none => none)
  | _, _ => none
theorem ml_join : MtR X "str.join" (lowM X.K joinO) := MtL.of mt_join fun hd as G H y a x xs Q w ry ra q => by
  unfold joinO at q
  split at q
  · rename_i z t
    cases ry
    cases es : (seqDat t G).bind fun p => strsOf p.2 with
    | none => rw [es] at q; exact q.elim
    | some ys =>
      rw [es] at q
      simp only at q
      split at q
      · rename_i hz
        cases ra with
        | cons ra rn =>
          cases rn
          obtain ⟨⟨b, l⟩, h1, h2⟩ := Option.bind_eq_some_iff.mp es
          obtain ⟨p, vs, e1, h3, h4⟩ := seqDat_rel w ra h1
          rw [strsOf_rel h2 h4] at h3
          refine ⟨z, p, ys, rfl, by rw [e1], ?_, hz, ResO.dat w (RelD.str _) q⟩
          cases b
          · exact .inr (by simpa using h3)
          · exact .inl (by simpa using h3)
      · exact q.elim
  · exact q.elim
/-! ### dicts -/
def dctOf (x : Vl) (G : Gh) : Bool := match x with
  | .dat (.dct _) => true
  | .ref i => (match G[i]? with
    | some (.dct _) => true
    | _ => false)
  | _ => false
/-- the value under a key: none: no dict, or a key of no kind that is served -/
def getD (x y : Vl) (G : Gh) : Option (Option Vl) := match x with
  | .dat (.dct l) => (match y with
    | .dat k => (keyOf k).map fun k => (lookK l k).map .dat
    | _ => none)
  | .ref i => (match G[i]? with
    | some (.dct l) => (match y with
      | .dat k => (keyOf k).map fun k => lookK l k
      | _ => none)
    | _ => none)
  | _ => none
def get1E (m mk : Ev → M Vl) : Ev → M Vl := fun ρ => andThen (m ρ) fun x G => if dctOf x G = true then andThen (mk ρ) (fun y G => match getD x y G with
  | some (some v) => .ok v G
  | some none => .ok (.dat .non) G
  | none => .no) G else .no
def get2E (m mk md : Ev → M Vl) : Ev → M Vl := fun ρ => andThen (m ρ) fun x G => if dctOf x G = true then andThen (mk ρ) (fun y => andThen (md ρ) fun z G => match getD x y G with
  | some (some v) => .ok v G
  | some none => .ok z G
  | none => .no) G else .no
theorem dct_isD {K : PySem.W.Frag} {hd as : List Addr} {G : Gh} {H : Hp} {x : Vl} {v : V} (w : Wd K hd as G H) (r : RelVl K as (Fz hd as G H) x v) (h : dctOf x G = true) : ∃ a, v = .ref a ∧ IsD H a := by
  unfold dctOf at h
  split at h
  · cases r with
    | dct h1 h2 h3 => exact ⟨_, rfl, .inl ⟨_, Fz.rd h1⟩⟩
  · rename_i i
    obtain ⟨p, hp, rfl⟩ := r
    split at h
    · rename_i l eg
      obtain ⟨kvs, h1, _⟩ := w.at eg hp
      exact ⟨p, rfl, .inl ⟨kvs, .inl h1⟩⟩
    · cases h
  · cases h
theorem getD_rel {K : PySem.W.Frag} {hd as : List Addr} {G : Gh} {H : Hp} {x y : Vl} {v u : V} {a : Addr} {o : Option Vl} (w : Wd K hd as G H) (hv : v = .ref a) (r : RelVl K as (Fz hd as G H) x v) (ry : RelVl K as (Fz hd as G H) y u) (h : getD x y G = some o) :
    ∃ ov, DGet H a u ov ∧ RelOpt (RelVl K as (Fz hd as G H)) o ov := by
  subst hv
  unfold getD at h
  split at h
  · rename_i l
    split at h
    · rename_i k
      obtain ⟨kk, h1, rfl⟩ := Option.map_eq_some_iff.mp h
      cases r with
      | @dct _ _ kvs g1 g2 g3 =>
        have eu := keyOf_rel (show RelD K (Fz hd as G H) k u from ry) h1
        subst eu
        refine ⟨valV kvs kk, .inl ⟨kvs, kk, Fz.rd g1, rfl, rfl⟩, ?_⟩
        have lk := lookK_rel (k := kk) g2 (paired_of_ds g3)
        revert lk
        cases lookK l kk <;> cases valV kvs kk <;> exact fun z => z
    · cases h
  · rename_i i
    obtain ⟨p, hp, e⟩ := r
    cases e
    split at h
    · rename_i l eg
      split at h
      · rename_i k
        obtain ⟨kk, h1, rfl⟩ := Option.map_eq_some_iff.mp h
        obtain ⟨kvs, g1, g2, g3⟩ := w.at eg hp
        have eu := keyOf_rel (show RelD K (Fz hd as G H) k u from ry) h1
        subst eu
        exact ⟨valV kvs kk, .inl ⟨kvs, kk, .inl g1, rfl, rfl⟩, lookK_rel (k := kk) g2 g3⟩
      · cases h
    · cases h
  · cases h
theorem q_get1 {mk : Ev → M Vl} (hu : X.A.units + 1 < cLine) (ho : QE X W o m) (he : QE X W e mk) (h : M1 X o "get" apos e cpos) : QE X W (.Call (.Attribute o "get" apos) [e] [] cpos) (get1E m mk) :=
  (pe_dget1 hu ho he h).imp fun σ H Q ⟨hd, as, ρ, G, a, q⟩ => ⟨hd, as, ρ, G, a, (Res.bind q).mono fun v H1 ⟨as1, G1, x, e1, w1, r1, q1⟩ => by
    by_cases hk : dctOf x G1 = true
    · simp only [if_pos hk] at q1
      obtain ⟨p, ev, hd1⟩ := dct_isD w1 r1 hk
      refine ⟨p, ev, hd1, hd, as1, ρ, G1, a.ext e1 w1, (Res.bind q1).mono fun u H2 ⟨as2, G2, y, e2, w2, r2, q2⟩ => ?_⟩
      cases eg : getD x y G2 with
      | none => simp only [eg] at q2; exact q2.elim
      | some o =>
        simp only [eg] at q2
        obtain ⟨ov, h1, h2⟩ := getD_rel w2 ev (r1.ext e2) r2 eg
        refine ⟨ov, h1, ?_⟩
        cases o <;> cases ov <;> first | exact h2.elim | skip
        · exact q2 as2 H2 _ (Ext.refl _ _ _ _) w2 RelD.non
        · exact q2 as2 H2 _ (Ext.refl _ _ _ _) w2 h2
    · simp only [if_neg hk] at q1; exact q1.elim⟩
theorem q_get2 {f : Expr} {mk md : Ev → M Vl} (hu : X.A.units + 1 < cLine) (ho : QE X W o m) (he : QE X W e mk) (hf : QE X W f md) (h : M2 X o "get" apos e f cpos) : QE X W (.Call (.Attribute o "get" apos) [e, f] [] cpos) (get2E m mk md) :=
  (pe_dget2 hu ho he hf h).imp fun σ H Q ⟨hd, as, ρ, G, a, q⟩ => ⟨hd, as, ρ, G, a, (Res.bind q).mono fun v H1 ⟨as1, G1, x, e1, w1, r1, q1⟩ => by
    by_cases hk : dctOf x G1 = true
    · simp only [if_pos hk] at q1
      obtain ⟨p, ev, hd1⟩ := dct_isD w1 r1 hk
      refine ⟨p, ev, hd1, hd, as1, ρ, G1, a.ext e1 w1, (Res.bind q1).mono fun u H2 ⟨as2, G2, y, e2, w2, r2, q2⟩ => ⟨hd, as2, ρ, G2, (a.ext e1 w1).ext e2 w2, (Res.bind q2).mono fun z H3 ⟨as3, G3, zd, e3, w3, r3, q3⟩ => ?_⟩⟩
      cases eg : getD x y G3 with
      | none => simp only [eg] at q3; exact q3.elim
      | some o =>
        simp only [eg] at q3
        obtain ⟨ov, h1, h2⟩ := getD_rel w3 ev ((r1.ext e2).ext e3) (r2.ext e3) eg
        refine ⟨ov, h1, ?_⟩
        cases o <;> cases ov <;> first | exact h2.elim | skip
        · exact q3 as3 H3 _ (Ext.refl _ _ _ _) w3 r3
        · exact q3 as3 H3 _ (Ext.refl _ _ _ _) w3 h2
    · simp only [if_neg hk] at q1; exact q1.elim⟩
end
/-! ### isinstance of built-in types -/
def isK (own : Str → Option Bool) (ks : KD → Bool) : KD → Option Bool
  | .own c => own c
  | k => some (ks k)
def noOwn : Str → Option Bool := fun _ => none
def isIntK : KD → Bool
  | .int => true
  | .bl => true
  | _ => false
def isBoolK : KD → Bool
  | .bl => true
  | _ => false
def isStrK : KD → Bool
  | .str => true
  | _ => false
def isTupK : KD → Bool
  | .tup => true
  | _ => false
def isLstK : KD → Bool
  | .lst => true
  | _ => false
def isDctK : KD → Bool
  | .dct => true
  | _ => false
theorem isT_int {K : PySem.W.Frag} : IsT K (.type "int") (isK noOwn isIntK) := ⟨fun k b h => by
  cases k <;> first | (cases h; exact ⟨by kernel_rfl, fun _ z => nomatch z⟩) | cases h⟩
theorem isT_bool {K : PySem.W.Frag} : IsT K (.type "bool") (isK noOwn isBoolK) := ⟨fun k b h => by
  cases k <;> first | (cases h; exact ⟨by kernel_rfl, fun _ z => nomatch z⟩) | cases h⟩
theorem isT_str {K : PySem.W.Frag} : IsT K (.type "str") (isK noOwn isStrK) := ⟨fun k b h => by
  cases k <;> first | (cases h; exact ⟨by kernel_rfl, fun _ z => nomatch z⟩) | cases h⟩
theorem isT_tuple {K : PySem.W.Frag} : IsT K (.type "tuple") (isK noOwn isTupK) := ⟨fun k b h => by
  cases k <;> first | (cases h; exact ⟨by kernel_rfl, fun _ z => nomatch z⟩) | cases h⟩
theorem isT_list {K : PySem.W.Frag} : IsT K (.type "list") (isK noOwn isLstK) := ⟨fun k b h => by
  cases k <;> first | (cases h; exact ⟨by kernel_rfl, fun _ z => nomatch z⟩) | cases h⟩
theorem isT_dict {K : PySem.W.Frag} : IsT K (.type "dict") (isK noOwn isDctK) := ⟨fun k b h => by
  cases k <;> first | (cases h; exact ⟨by kernel_rfl, fun _ z => nomatch z⟩) | cases h⟩
end DL
end L2

/-! DL18: a def by its name -/
namespace L2
namespace DL
open PySem PySem.Spec PyProof.Rows
variable [HasW]
structure OkD (P : Program) (w : World) (K : PySem.W.Frag) (mg : Str → Option Value) (base : Heap) (k : Nat) (x : Str) (np : Nat) (fm : FD) : Prop where
  ex : ∃ fd ps, FnG P w K mg base (L2.CX P w) k (He.ga K x) fd ps (spD K np fm) ∧ Binds K fd ps []
  kp : PySem.W.keepIn K (.ref (He.ga K x)) = true
  gl : mg x = some (.ref (He.ga K x))
/-- a def of the head -/
def HasD (K : PySem.W.Frag) (mg : Str → Option Value) (x : Str) (st : Stmt) : Prop := (∃ fd, FunD K x x (defArgs st) (defBody st) (defScope st) [] [] (He.ga K x) fd) ∧ mg x = some (.ref (He.ga K x))
section
variable {P : Program} {w : World} {K : PySem.W.Frag} {mg : Str → Option Value} {base : Heap} {x : Str} {st : Stmt}
theorem OkD.of {N ps : List Str} {k : Nat} {top : Bool} {sd : SD} (h : HasD K mg x st) (S : FnScope N ps (defScope st))
    (hb : ∀ (kV doc pm : Value) (an : Option Addr) (cdv ct : Value) (us : List Value), us.length = ps.length → bindArgs (PySem.W.fnOf x x (defArgs st) (defBody st) (defScope st) .none kV doc pm an cdv ct) ⟨us, []⟩ = pure (ps.zip us))
    (hd : ∀ (fd : FuncData) (cdv : Value) (A : Around) (outer : List Env) (s : Shared) (H : Hp) (E : XK), RoomG k (A.deeper (envOfC x (defScope st) s.heap.objs.size (He.ga K x) cdv)) → QSs (cxOf (L2.CX P w) P w K mg base N x (defScope st) (He.ga K x) cdv A outer s H E) (fun cls d _ H' => E cls d H') (defBody st) sd) :
    OkD P w K mg base (k + 1) x ps.length (runD top N.length sd) := by
  obtain ⟨⟨fd, F⟩, g⟩ := h
  exact ⟨⟨fd, ps, okD F S fun cdv A outer s H E hr => hd fd cdv A outer s H E hr, F.bindsN hb⟩, F.kp, g⟩
end
section
variable {X : Cx} {W : WX} {x : Str} {p pos : Pos} {e : Expr} {es : List Expr} {m : Ev → M (List Vl)} {j k np : Nat} {fm : FD}
theorem q_callD (O : OkD X.prog X.w X.K X.mg X.base k x np fm) (hr : RoomG j X.A) (hk : k ≤ j) (hg : Gl X x) (tk : Takes X W)
    (ha : QA X W (e :: es) m) (hdb : (x == ("__debug__" : Str)) = false := by decide) (he : starEach (e :: es) X.env = (false, eval e X.env) :: starEach es X.env := by rfl) (hpl : (backTo pos (starEach es X.env)).any (·.1) = false := by rfl) :
    QE X W (.Call (.Name x p) (e :: es) [] pos) (callF np fm m) := by
  obtain ⟨fd, ps, F, B⟩ := O.ex
  exact q_call F (hr.mono hk) hg O.gl O.kp B tk ha hdb he hpl
theorem bind1 {ps : List Str} {d : FuncData} (h : ∀ us : List Value, us.length = ps.length → bindArgs d ⟨us, []⟩ = pure (ps.zip us)) : ∀ us : List Value, us.length = ps.length → bindArgs d ⟨us, []⟩ = pure (ps.zip us) := h
theorem q_gint {i : Int} (hg : Gl X x) (h : ∃ t, X.mg x = some (.int i t)) (hd : (x == ("__debug__" : Str)) = false := by decide) : QE X W (.Name x pos) (cD (.int i)) := by
  obtain ⟨t, h⟩ := h
  exact q_glob (v := .int i) hg h ⟨t, rfl⟩ (fun _ => .int i) hd
theorem q_gstr {z : Str} (hg : Gl X x) (h : ∃ t, X.mg x = some (.str z t)) (hd : (x == ("__debug__" : Str)) = false := by decide) : QE X W (.Name x pos) (cD (.str z)) := by
  obtain ⟨t, h⟩ := h
  exact q_glob (v := .str z) hg h ⟨t, rfl⟩ (fun _ => .str z) hd
/-- a module's tuple -/
theorem q_gtup {l : List D} {u : Addr} (hg : Gl X x) (h : X.mg x = some (.ref u)) (r : ∀ F, RelD X.K F (.tup l) (.ref u)) (hd : (x == ("__debug__" : Str)) = false := by decide) : QE X W (.Name x pos) (cD (.tup l)) :=
  q_glob (v := .ref u) hg h rfl r hd
/-- what never comes -/
def deadS : SD := fun _ _ => .no
theorem q_dead {st : Stmt} : QS X W st deadS := ⟨fun pins s σ H Z I ⟨hd, as, ρ, G, a, q⟩ => q.elim⟩
def deadE : Ev → M Vl := fun _ _ => .no
theorem qe_dead {e : Expr} : QE X W e deadE := ⟨fun pins s σ H Z I ⟨hd, as, ρ, G, a, q⟩ => q.elim⟩
end
theorem takesNo {X : Cx} : Takes X W0 := fun _ _ x => by
  obtain ⟨_, _, _, _, _, _, _, _, _, _, _, _, _, _, _, _, n⟩ := x
  exact False.elim n
theorem bt_len : bootBuiltins "len" = some (.builtin "len") := by decide +kernel
theorem hu64 {k : Nat} {A : Around} (r : RoomG k A) : A.units + 64 < cLine := by have := r.r.un; omega
theorem hu65 {k : Nat} {A : Around} (r : RoomG k A) : A.units + 65 < cLine := by have := r.r.un; omega
theorem hu1 {k : Nat} {A : Around} (r : RoomG k A) : A.units + 1 < cLine := by have := r.r.un; omega
end DL
end L2

/-! DL19: fields, methods, makers of classes of one's own -/
namespace L2
namespace DL
open PySem PySem.Spec PyProof.Rows
variable [HasW]
def clsOf (x : Vl) (G : Gh) : Option (Str × List (Str × Vl)) := match x with
  | .dat (.obj c fs) => some (c, fs.map fun p => (p.1, .dat p.2))
  | .ref i => (match G[i]? with
    | some (.ins c fs) => some (c, fs)
    | _ => none)
  | _ => none
theorem lookup_rel {β : Type} {P : Vl → V → Prop} {f : Str} : ∀ {fs : List (Str × Vl)} {vs : List (Str × V)}, fs.map (·.1) = vs.map (·.1) → Paired P (fs.map (·.2)) (vs.map (·.2)) → RelOpt P (fs.lookup f) (vs.lookup f)
  | [], [], _, _ => trivial
  | [], _ :: _, h, _ => by simp at h
  | _ :: _, [], h, _ => by simp at h
  | (a, x) :: fs, (b, v) :: vs, h, r => by
    simp only [List.map_cons, List.cons.injEq] at h
    obtain ⟨e, h⟩ := h
    subst e
    cases r with
    | cons r1 r2 =>
      have ih := lookup_rel (β := β) (f := f) h r2
      by_cases hf : (f == a) = true
      · simp only [List.lookup_cons, hf]; exact r1
      · have hf' : (f == a) = false := by simpa using hf
        simp only [List.lookup_cons, hf']; exact ih
theorem map_dat_snd {fs : List (Str × D)} : (fs.map fun p => (p.1, Vl.dat p.2)).map (·.2) = (fs.map (·.2)).map Vl.dat := by simp [List.map_map, Function.comp_def]
theorem map_dat_fst {fs : List (Str × D)} : (fs.map fun p => (p.1, Vl.dat p.2)).map (·.1) = fs.map (·.1) := by simp [List.map_map, Function.comp_def]
theorem clsOf_rel {K : PySem.W.Frag} {hd as : List Addr} {G : Gh} {H : Hp} {x : Vl} {v : V} {c : Str} {fs : List (Str × Vl)} (w : Wd K hd as G H) (r : RelVl K as (Fz hd as G H) x v) (h : clsOf x G = some (c, fs)) :
    ∃ a dx vs, v = .ref a ∧ H a = some (.ins (He.ga K c) dx vs) ∧ fs.map (·.1) = vs.map (·.1) ∧ RelVls K as (Fz hd as G H) (fs.map (·.2)) (vs.map (·.2)) := by
  unfold clsOf at h
  split at h
  · cases h
    cases r with
    | obj h1 h2 h3 => exact ⟨_, _, _, rfl, Fz.of h1, by rw [map_dat_fst]; exact h2, by rw [map_dat_snd]; exact rels_map h3⟩
  · obtain ⟨p, hp, rfl⟩ := r
    split at h
    · rename_i eg
      cases h
      obtain ⟨dx, vs, h1, h2, h3⟩ := w.at eg hp
      exact ⟨p, dx, vs, rfl, h1, h2, h3⟩
    · cases h
  · cases h
def fldE (cs : List Str) (f : Str) (m : Ev → M Vl) : Ev → M Vl := fun ρ => andThen (m ρ) fun x G => match clsOf x G with
  | some (c, fs) => if c ∈ cs then (match fs.lookup f with
    | some y => .ok y G
    | none => .no) else .no
  | none => .no
def putFD (f : Str) (v : Vl) : List (Str × Vl) → List (Str × Vl)
  | [] => [(f, v)]
  | (g, x) :: r => if g = f then (g, v) :: r else (g, x) :: putFD f v r
theorem putFD_rel {P : Vl → V → Prop} {f : Str} {y : Vl} {u : V} (ry : P y u) : ∀ {fs : List (Str × Vl)} {vs : List (Str × V)}, fs.map (·.1) = vs.map (·.1) → Paired P (fs.map (·.2)) (vs.map (·.2)) →
    (putFD f y fs).map (·.1) = (putF f u vs).map (·.1) ∧ Paired P ((putFD f y fs).map (·.2)) ((putF f u vs).map (·.2))
  | [], [], _, _ => ⟨rfl, .cons ry .nil⟩
  | [], _ :: _, h, _ => by simp at h
  | _ :: _, [], h, _ => by simp at h
  | (a, x) :: fs, (b, v) :: vs, h, r => by
    simp only [List.map_cons, List.cons.injEq] at h
    obtain ⟨e, h⟩ := h
    subst e
    cases r with
    | cons r1 r2 =>
      obtain ⟨i1, i2⟩ := putFD_rel (f := f) ry h r2
      unfold putFD putF
      by_cases hf : a = f
      · simp only [if_pos hf, List.map_cons]; exact ⟨by rw [h], .cons ry r2⟩
      · simp only [if_neg hf, List.map_cons]; exact ⟨by rw [i1], .cons r1 i2⟩
def fldS (c f : Str) (mo mv : Ev → M Vl) : SD := thenS mv fun y => thenS mo fun x ρ G => match x with
  | .ref i => (match G[i]? with
    | some (.ins c' fs) => if c' = c ∧ fs.length < 1000 then .nx ρ (G.set i (.ins c' (putFD f y fs))) else .no
    | _ => .no)
  | _ => .no
section
variable {X : Cx} {W : WX} {pos : Pos} {e o : Expr} {es : List Expr} {m : Ev → M Vl} {r : Ev → M (List Vl)}
theorem q_fld {cs : List Str} {f : Str} (hc : ∀ c ∈ cs, Cls X.K (He.ga X.K c) ∧ NoAttr X.K (He.ga X.K c) f) (he : QE X W e m) (hb : attributeBase e f X.env (eval e X.env) = eval e X.env := by rfl) : QE X W (.Attribute e f pos) (fldE cs f m) :=
  (pe_fld he hb).imp fun σ H Q ⟨hd, as, ρ, G, a, q⟩ => ⟨hd, as, ρ, G, a, (Res.bind q).mono fun v H1 ⟨as1, G1, x, e1, w1, r1, q1⟩ => by
    cases ek : clsOf x G1 with
    | none => simp only [ek] at q1; exact q1.elim
    | some p =>
      obtain ⟨c, fs⟩ := p
      simp only [ek] at q1
      by_cases hm : c ∈ cs
      · simp only [if_pos hm] at q1
        obtain ⟨p, dx, vs, ev, h1, h2, h3⟩ := clsOf_rel w1 r1 ek
        have lk := lookup_rel (β := Unit) (f := f) h2 h3
        cases el : fs.lookup f with
        | none => simp only [el] at q1; exact q1.elim
        | some y =>
          simp only [el] at q1
          rw [el] at lk
          cases ev' : vs.lookup f with
          | none => rw [ev'] at lk; exact lk.elim
          | some u =>
            rw [ev'] at lk
            exact ⟨p, _, dx, vs, u, ev, h1, (hc c hm).1, (hc c hm).2, ev', q1 as1 H1 u (Ext.refl _ _ _ _) w1 lk⟩
      · simp only [if_neg hm] at q1; exact q1.elim⟩
theorem q_setFld {c f : Str} {mv : Ev → M Vl} {value : Expr} {pos' : Pos} (hc : Cls X.K (He.ga X.K c)) (hn : NoAttr X.K (He.ga X.K c) f) (ho : QE X W o m) (hv : QE X W value mv) (hs : swapsWith value (some (.Attribute o f pos')) pos.line X.env = pure false := by rfl) :
    QS X W (.Assign [.Attribute o f pos'] value pos) (fldS c f m mv) :=
  (ps_fld ho hv hs).imp fun Z σ H ⟨hd, as, ρ, G, a, q⟩ => ⟨hd, as, ρ, G, a, (thenS_mid a q).mono fun y H1 ⟨as1, G1, yd, e1, a1, ry, q1⟩ => ⟨hd, as1, ρ, G1, a1, (thenS_mid a1 q1).mono fun x H2 ⟨as2, G2, xd, e2, a2, rx, q2⟩ => by
    cases xd with
    | dat d => exact q2.elim
    | pr _ _ => exact q2.elim
    | ref i =>
      obtain ⟨p, hp, rfl⟩ := rx
      simp only at q2
      cases eg : G2[i]? with
      | none => simp only [eg] at q2; exact q2.elim
      | some go =>
        cases go with
        | ins c' fs =>
          simp only [eg] at q2
          split at q2
          · rename_i hcc
            obtain ⟨hcc, hl⟩ := hcc
            subst hcc
            obtain ⟨dx, vs, h1, h2, h3⟩ := a2.wd.at eg hp
            obtain ⟨k1, k2⟩ := putFD_rel (f := f) (ry.ext e2) h2 h3
            obtain ⟨w3, e3⟩ := a2.wd.upd (go' := .ins c' (putFD f yd fs)) (o' := .ins (He.ga X.K c') dx (putF f y vs)) hp eg rfl rfl ⟨dx, _, upd_same, k1, k2⟩
            have hlen : vs.length = fs.length := by have := congrArg List.length h2; simp only [List.length_map] at this; exact this.symm
            exact ⟨p, _, dx, vs, rfl, h1, hc, hn, by omega, q2 as2 _ σ e3 (a2.ext e3 w3)⟩
          · exact q2.elim
        | _ => simp only [eg] at q2; exact q2.elim⟩⟩
end
/-! ### methods -/
theorem pass_tk {X : Cx} {E : XK} (tk : Takes X (fun c d _ H => E c d H)) : Passes (L2.CX X.prog X.w) X E := fun _ σ _ _ e s' I c => tk e s' (XE.of_call I (fun _ _ _ h => h) c)
structure OkM (P : Program) (w : World) (K : PySem.W.Frag) (mg : Str → Option Value) (base : Heap) (k : Nat) (c m : Str) (np : Nat) (fm : FD) : Prop where
  ex : ∃ fd ps, FnG P w K mg base (L2.CX P w) k (He.ma K (He.ga K c) m) fd ps (spD K np fm) ∧ Binds K fd ps []
def HasM (K : PySem.W.Frag) (c m q : Str) (st : Stmt) : Prop := ∃ fd, FunD K m q (defArgs st) (defBody st) (defScope st) [] [] (He.ma K (He.ga K c) m) fd
theorem OkM.of {P : Program} {w : World} {K : PySem.W.Frag} {mg : Str → Option Value} {base : Heap} {c m q : Str} {st : Stmt} {N ps : List Str} {k : Nat} {top : Bool} {sd : SD} (h : HasM K c m q st) (S : FnScope N ps (defScope st))
    (hb : ∀ (kV doc pm : Value) (an : Option Addr) (cdv ct : Value) (us : List Value), us.length = ps.length → bindArgs (PySem.W.fnOf m q (defArgs st) (defBody st) (defScope st) .none kV doc pm an cdv ct) ⟨us, []⟩ = pure (ps.zip us))
    (hd : ∀ (fd : FuncData) (cdv : Value) (A : Around) (outer : List Env) (s : Shared) (H : Hp) (E : XK), RoomG k (A.deeper (envOfC q (defScope st) s.heap.objs.size (He.ma K (He.ga K c) m) cdv)) → QSs (cxOf (L2.CX P w) P w K mg base N q (defScope st) (He.ma K (He.ga K c) m) cdv A outer s H E) (fun cls d _ H' => E cls d H') (defBody st) sd) :
    OkM P w K mg base (k + 1) c m ps.length (runD top N.length sd) := by
  obtain ⟨fd, F⟩ := h
  exact ⟨fd, ps, okD F S fun cdv A outer s H E hr => hd fd cdv A outer s H E hr, F.bindsN hb⟩
def methE (c m : Str) (np : Nat) (fm : FD) (mo : Ev → M Vl) (r : Ev → M (List Vl)) : Ev → M Vl := fun ρ => andThen (mo ρ) fun x G => match clsOf x G with
  | some (c', fs) => if c' = c ∧ fs.lookup m = none then andThen (r ρ) (fun xs => callAt np fm (x :: xs)) G else .no
  | none => .no
section
variable {X : Cx} {E : XK} {pos apos : Pos} {e o : Expr} {es : List Expr} {mo : Ev → M Vl} {r : Ev → M (List Vl)} {c m : Str} {j k np : Nat} {fm : FD}
theorem meth_mid {K : PySem.W.Frag} {hd as : List Addr} {G : Gh} {H : Hp} {x : Vl} {v : V} {fs : List (Str × Vl)} (w : Wd K hd as G H) (rx : RelVl K as (Fz hd as G H) x v) (h : clsOf x G = some (c, fs)) (hl : fs.lookup m = none) : ∃ a dx vs, v = .ref a ∧ H a = some (.ins (He.ga K c) dx vs) ∧ vs.lookup m = none := by
  obtain ⟨a, dx, vs, e, h1, h2, h3⟩ := clsOf_rel w rx h
  have lk := lookup_rel (β := Unit) (f := m) h2 h3
  rw [hl] at lk
  cases ev : vs.lookup m with
  | none => exact ⟨a, dx, vs, e, h1, ev⟩
  | some u => rw [ev] at lk; exact lk.elim
theorem q_meth {pl : Sem Bool} (O : OkM X.prog X.w X.K X.mg X.base k c m np fm) (hcl : Cls X.K (He.ga X.K c)) (hm : Meth X.K (He.ga X.K c) m (He.ma X.K (He.ga X.K c) m)) (hr : RoomG j X.A) (hk : k ≤ j) (tk : Takes X (fun c d _ H => E c d H))
    (ho : QE X (fun c d _ H => E c d H) o mo) (ha : QA X (fun c d _ H => E c d H) (e :: es) r)
    (hst : starEach (e :: es) X.env = (false, eval e X.env) :: starEach es X.env := by rfl) (hpl : (backTo pos (starEach es X.env)).any (·.1) = false := by rfl)
    (ht : eval (.Call (.Attribute o m apos) (e :: es) [] pos) X.env = (do
      let ov ← eval o X.env
      standAt apos.atName
      let (f, first) ← holding [ov] (getMethod ov m pl)
      callWith pos f first (backTo pos (starEach (e :: es) X.env)) (backToKw pos (keywordEach [] X.env))) := by rfl) :
    QE X (fun c d _ H => E c d H) (.Call (.Attribute o m apos) (e :: es) [] pos) (methE c m np fm mo r) := by
  obtain ⟨fd, ps, F, B⟩ := O.ex
  refine (pe_methG ho hcl hm F (hr.mono hk) B (pass_tk tk) ha hst hpl ht).imp fun σ H Q ⟨hd, as, ρ, G, a, q⟩ => ⟨hd, as, ρ, G, a, (Res.bind q).mono fun v H1 ⟨as1, G1, x, e1, w1, r1, q1⟩ => ?_⟩
  cases ek : clsOf x G1 with
  | none => simp only [ek] at q1; exact q1.elim
  | some p =>
    obtain ⟨c', fs⟩ := p
    simp only [ek] at q1
    split at q1
    · rename_i hh
      obtain ⟨hcc, hl⟩ := hh
      subst hcc
      obtain ⟨p, dx, vs, ev, h1, h2⟩ := meth_mid w1 r1 ek hl
      refine ⟨p, dx, vs, ev, h1, h2, hd, as1, ρ, G1, a.ext e1 w1, (ResA.bind q1).mono fun us H2 ⟨as2, G2, xs, e2, w2, r2, q2⟩ => ?_⟩
      rw [List.append_nil]
      exact callAt_ok (W := fun c d _ H => E c d H) w2 (.cons (r1.ext e2) r2) q2
    · exact q1.elim
theorem q_meth0 {pl : Sem Bool} (O : OkM X.prog X.w X.K X.mg X.base k c m np fm) (hcl : Cls X.K (He.ga X.K c)) (hm : Meth X.K (He.ga X.K c) m (He.ma X.K (He.ga X.K c) m)) (hr : RoomG j X.A) (hk : k ≤ j) (tk : Takes X (fun c d _ H => E c d H))
    (ho : QE X (fun c d _ H => E c d H) o mo)
    (ht : eval (.Call (.Attribute o m apos) [] [] pos) X.env = (do
      let ov ← eval o X.env
      standAt apos.atName
      let (f, first) ← holding [ov] (getMethod ov m pl)
      callWith pos f first (backTo pos (starEach [] X.env)) (backToKw pos (keywordEach [] X.env))) := by rfl) :
    QE X (fun c d _ H => E c d H) (.Call (.Attribute o m apos) [] [] pos) (methE c m np fm mo nilA) := by
  obtain ⟨fd, ps, F, B⟩ := O.ex
  refine (pe_meth0G ho hcl hm F (hr.mono hk) B (pass_tk tk) ht).imp fun σ H Q ⟨hd, as, ρ, G, a, q⟩ => ⟨hd, as, ρ, G, a, (Res.bind q).mono fun v H1 ⟨as1, G1, x, e1, w1, r1, q1⟩ => ?_⟩
  cases ek : clsOf x G1 with
  | none => simp only [ek] at q1; exact q1.elim
  | some p =>
    obtain ⟨c', fs⟩ := p
    simp only [ek] at q1
    split at q1
    · rename_i hh
      obtain ⟨hcc, hl⟩ := hh
      subst hcc
      obtain ⟨p, dx, vs, ev, h1, h2⟩ := meth_mid w1 r1 ek hl
      refine ⟨p, dx, vs, ev, h1, h2, ?_⟩
      exact callAt_ok (W := fun c d _ H => E c d H) (σ := σ) w1 (.cons r1 .nil) q1
    · exact q1.elim
end
/-! ### making -/
def newAt (c : Str) (np : Nat) (fm : FD) (keep : Bool) (xs : List Vl) : M Vl := fun G => match callAt np fm (.ref G.length :: xs) (G ++ [.ins c []]) with
  | .ok (.dat .non) G2 => if keep = true then .ok (.ref G.length) G2 else leaveF G.length (.ref G.length) G2
  | .ex e d G2 => leaveX G.length e d G2
  | _ => .no
def makeE (c : Str) (np : Nat) (fm : FD) (keep : Bool) (r : Ev → M (List Vl)) : Ev → M Vl := fun ρ => andThen (r ρ) (newAt c np fm keep)
section
variable {X : Cx} {E : XK} {pos p : Pos} {e : Expr} {es : List Expr} {r : Ev → M (List Vl)} {c : Str} {j k np : Nat} {fm : FD} {keep : Bool}
theorem q_make (O : OkM X.prog X.w X.K X.mg X.base k c "__init__" np fm) (M : Mk X.K (He.ga X.K c) (He.ma X.K (He.ga X.K c) "__init__")) (hr : RoomG j X.A) (hk : k + 1 ≤ j) (hg : Gl X c) (hmg : X.mg c = some (.ref (He.ga X.K c))) (tk : Takes X (fun c d _ H => E c d H))
    (ha : QA X (fun c d _ H => E c d H) (e :: es) r) (hdb : (c == ("__debug__" : Str)) = false := by decide) (he : starEach (e :: es) X.env = (false, eval e X.env) :: starEach es X.env := by rfl) (hpl : (backTo pos (starEach es X.env)).any (·.1) = false := by rfl) :
    QE X (fun c d _ H => E c d H) (.Call (.Name c p) (e :: es) [] pos) (makeE c np fm keep r) := by
  obtain ⟨fd, ps, F, B⟩ := O.ex
  refine (pe_makeG M F (hr.mono hk) hg hmg B (pass_tk tk) ha hdb he hpl).imp fun σ H Q ⟨hd, as, ρ, G, a, q⟩ => ⟨hd, as, ρ, G, a, (ResA.bind q).mono fun us H1 ⟨as1, G1, xs, e1, w1, r1, q1⟩ => ?_⟩
  intro x dx hx hdx hne
  rw [List.append_nil]
  obtain ⟨w2, e2, _⟩ := w1.new (.own x) hdx
  have hx2 : upd H1 dx (.own x) x = none := by rw [upd_ne (Ne.symm hne)]; exact hx
  obtain ⟨w3, e3⟩ := w2.cellNew (go := .ins c []) (o := .ins (He.ga X.K c) dx []) hx2 (fun F k => ⟨dx, [], upd_same, rfl, .nil⟩) rfl
  have e13 := e2.trans e3
  have rx : RelVl X.K (as1 ++ [x]) (Fz hd (as1 ++ [x]) (G1 ++ [.ins c []]) (upd (upd H1 dx (.own x)) x (.ins (He.ga X.K c) dx []))) (.ref G1.length) (.ref x) := ⟨x, by rw [← w1.len]; simp, rfl⟩
  refine callAt_ok (W := fun c d _ H => E c d H) (σ := σ) w3 (.cons rx (r1.ext e13)) ?_
  unfold newAt at q1
  cases ec : callAt np fm (.ref G1.length :: xs) (G1 ++ [.ins c []]) with
  | no => rw [ec] at q1; exact q1.elim
  | ex cc d G2 =>
    rw [ec] at q1
    intro as4 H4 dd e4 w4 t4
    exact leaveX_ok w1.len (e13.trans e4) w4 t4 q1
  | ok y G2 =>
    rw [ec] at q1
    intro as4 H4 v e4 w4 r4
    cases y with
    | ref _ => exact q1.elim
    | pr _ _ => exact q1.elim
    | dat d =>
      cases d with
      | non =>
        cases r4
        refine ⟨rfl, ?_⟩
        cases keep with
        | true => exact q1 as4 H4 (.ref x) (e13.trans e4) w4 (rx.ext e4)
        | false => exact leaveF_ok w1.len (e13.trans e4) w4 (rx.ext e4) q1
      | _ => exact q1.elim
end
end DL
end L2

/-! DL20: dicts: made, read whole -/
namespace L2
namespace DL
open PySem PySem.Spec PyProof.Rows
variable [HasW]
/-! ### tuple(..) of a dict: its keys -/
section
variable {prog : Program} {w : World} {A : Around} {E : Value → Shared → Prop} {s : Shared} {T : String} {r d : Addr} {n : Nat} {Y : Nat → Value → Prop} {OK : Heap → Prop}
theorem collect_kdl {Q : List Value → Shared → Prop} (S : PySem.W.KdlSrc prog w T r d n Y OK) (hh : A.handled = none) (ok : OK s.heap) (hn : n ≤ sizeLine)
    (hQ : ∀ (h' : Heap) (tk : Nat) (acc : Array Value), (∀ b o, s.heap.get? b = some o → h'.get? b = some o) → ItemsOf Y acc n → Q acc.toList { s with heap := h', toks := tk }) : wpAny (model prog w) A (collect (.ref r)) Q E s := by
  unfold collect
  refine wpAny_bind (wpAny_runValue (codeAny_builtin F.entry_proto_collect ?_))
  rw [Around.under_plainId F.plain_proto_collect _]
  show wpAny _ A.in1 (newList [] >>= fun z => again (.builtin "list.__iadd__" ⟨[z, .ref r], []⟩)) _ _ s
  refine wpAny_bind (wpAny_newObj_type ?_)
  refine wpAny_pure ⟨plainId_quiet F.plain_list_iadd _, codeAny_builtin F.entry_list_iadd ?_⟩
  rw [Around.under_plainId F.plain_list_iadd _]
  show wpAny _ A.in1 (Builtin.List.listExtendWith (.ref s.heap.objs.size) (.ref r) (.ref s.heap.objs.size)) _ _ _
  have lt := S.there _ ok
  have hS : (s.heap.push { cls := .type "list", data := .seq ([] : List Value).toArray }).get? s.heap.objs.size = some { cls := .type "list", data := .seq #[] 0 } := Heap.get?_push_size _ rfl
  refine wpAny_mono (PySem.W.kdl_extend (A := A) (R := fun z s' => z = .ok (.ret (.ref s.heap.objs.size)) ∧ ∃ (h' : Heap) (tk : Nat) (acc : Array Value) (c' : Nat), s' = { s with heap := h', toks := tk } ∧
      (∀ b o, s.heap.get? b = some o → h'.get? b = some o) ∧ h'.get? s.heap.objs.size = some { cls := .type "list", dict := none, data := .seq acc c', slots := #[] } ∧ ItemsOf Y acc n)
    (s := { s with heap := s.heap.push { cls := .type "list", data := .seq ([] : List Value).toArray } }) S hh (S.keep _ _ ok fun b _ o e => Heap.get?_push_of_some _ e) _ (Nat.ne_of_gt lt.1) (Nat.ne_of_gt lt.2) _ 0 hS
    (fun h' tk acc c' hk e hi => ⟨rfl, h', tk, acc, c', rfl, fun b o q => hk b o (Nat.ne_of_lt (Heap.lt_size q)) (Heap.get?_push_of_some _ q), e, hi⟩) hn) (fun fin s' h => ?_) (fun e s' h => absurd h.1 (by simp))
  cases fin with
  | done f =>
    obtain ⟨e, h', tk, acc, c', rfl, hk, hS', hi⟩ := h
    cases e
    exact wpAny_bind (wpAny_load hS' (wpAny_pure (hQ h' tk acc hk hi)))
  | again c' =>
    refine ⟨h.1, codeAny_mono h.2 fun z s2 hz => ?_⟩
    obtain ⟨rfl, h', tk, acc, c', rfl, hk, hS', hi⟩ := hz
    exact wpAny_bind (wpAny_load hS' (wpAny_pure (hQ h' tk acc hk hi)))
theorem tuple_kdl {Q : Value → Shared → Prop} (S : PySem.W.KdlSrc prog w T r d n Y OK) (hh : A.handled = none) (ok : OK s.heap) (hn : n ≤ sizeLine)
    (hQ : ∀ (h' : Heap) (tk : Nat) (acc : Array Value), (∀ b o, s.heap.get? b = some o → h'.get? b = some o) → ItemsOf Y acc n → Q (.ref h'.objs.size) { s with heap := h'.push { cls := .type "tuple", data := .seq acc }, toks := tk }) :
    wpAny (model prog w) A (call (.type "tuple") [.ref r]) Q E s := by
  refine callType_codes (Q₁ := fun z s1 => s1.TypeIs z "tuple" ∧ Q z s1) F.called_tuple (F.typeCall_tuple_1 _) F.entry_object_init ?_ fun z s1 h1 => ⟨h1.1, F.args_object_init_2 z _, object_init_meets F.called_tuple.init.lookup F.called_tuple.made (by decide) prog w A.in1 _ s1 ⟨h1.1, rfl, h1.2⟩⟩
  refine codeAny_of_tree ?_
  show wpAny _ A.in1.in1 (do checkBuiltinCall "tuple.__new__" ⟨[.type "tuple", .ref r], []⟩; again (.builtin "tuple.__new__" ⟨[.type "tuple", .ref r], []⟩)) _ _ s
  refine wpAny_bind (wpAny_of_eq (F.newCall_tuple_1 _) (wpAny_pure ⟨plainId_quiet F.plain_tuple_new _, codeAny_builtin F.entry_tuple_new ?_⟩))
  rw [Around.under_plainId F.plain_tuple_new _]
  have k1 := sub_tuple_self
  have k2 := init_tuple_lookup
  have k3 := madeHere_tuple
  have k4 := S.type s ok
  have k5 := S.notTuple
  have hh2 : A.in1.in1.handled = none := hh
  wp_walk using wpAny_typeOf k4, collect_kdl (A := A.in1.in1) S hh2 ok hn
  intro h' tk acc hk hi
  show wpAny _ _ (Builtin.Tuple.tupleExact acc.toList.toArray >>= _) _ _ _
  unfold Builtin.Tuple.tupleExact
  refine wpAny_bind (wpAny_newObj_type ?_ (by show acc.toList.toArray.size ≤ sizeLine; simp only [Array.toArray_toList]; rw [hi.1]; exact hn))
  refine wpAny_pure ?_
  rw [show acc.toList.toArray = acc by simp]
  exact ⟨⟨_, Heap.get?_push_size _ rfl, rfl⟩, hQ h' tk acc hk hi⟩
end
end DL
end L2

/-! DL21: dicts: the rules -/
namespace L2
namespace DL
open PySem PySem.Spec PyProof.Rows
variable [HasW]
/-- the pairs of a dict, data: of one that never changes, or of a cell -/
def dctD (x : Vl) (G : Gh) : Option (List (D × D)) := match x with
  | .dat (.dct l) => some l
  | .ref i => (match G[i]? with
    | some (.dct l) => (allDat (l.map (·.2))).map fun ds => (l.map (·.1)).zip ds
    | _ => none)
  | _ => none
/-- the keys of a dict, whatever its values -/
def dctK (x : Vl) (G : Gh) : Option (List D) := match x with
  | .dat (.dct l) => some (l.map (·.1))
  | .ref i => (match G[i]? with
    | some (.dct l) => some (l.map (·.1))
    | _ => none)
  | _ => none
theorem keyD_rel {K : PySem.W.Frag} {F : Hp} (k : Key) : RelD K F (keyD k) (kV k) := by cases k with
  | inl i => exact .int i
  | inr z => exact .str z
theorem keysD_rel {K : PySem.W.Frag} {F : Hp} : ∀ (kvs : List (Key × V)), RelDs K F (kvs.map fun p => keyD p.1) (kvs.map fun p => kV p.1)
  | [] => .nil
  | p :: r => .cons (keyD_rel p.1) (keysD_rel r)
section
variable {K : PySem.W.Frag} {hd as : List Addr} {G : Gh} {H : Hp}
theorem dctK_rel {x : Vl} {v : V} {ks : List D} (w : Wd K hd as G H) (r : RelVl K as (Fz hd as G H) x v) (h : dctK x G = some ks) : ∃ a kvs, v = .ref a ∧ Rd H a (.dK kvs) ∧ ks = kvs.map fun p => keyD p.1 := by
  unfold dctK at h
  split at h
  · cases h
    cases r with
    | dct h1 h2 h3 => exact ⟨_, _, rfl, Fz.rd h1, h2⟩
  · obtain ⟨p, hp, rfl⟩ := r
    split at h
    · rename_i l eg
      cases h
      obtain ⟨kvs, h1, h2, h3⟩ := w.at eg hp
      exact ⟨p, kvs, rfl, .inl h1, h2⟩
    · cases h
  · cases h
theorem dctD_rel {x : Vl} {v : V} {l : List (D × D)} (w : Wd K hd as G H) (r : RelVl K as (Fz hd as G H) x v) (h : dctD x G = some l) : ∃ a kvs, v = .ref a ∧ Rd H a (.dK kvs) ∧ l.map (·.1) = (kvs.map fun p => keyD p.1) ∧ RelDs K (Fz hd as G H) (l.map (·.2)) (kvs.map (·.2)) := by
  unfold dctD at h
  split at h
  · cases h
    cases r with
    | dct h1 h2 h3 => exact ⟨_, _, rfl, Fz.rd h1, h2, h3⟩
  · obtain ⟨p, hp, rfl⟩ := r
    split at h
    · rename_i l' eg
      obtain ⟨ds, h1, rfl⟩ := Option.map_eq_some_iff.mp h
      obtain ⟨kvs, h2, h3, h4⟩ := w.at eg hp
      have rd := allDat_rel h1 h4
      have hz : (l'.map (·.1)).length = ds.length := by
        have a1 := congrArg List.length h3
        have a2 := rd.length
        simp only [List.length_map] at a1 a2 ⊢
        omega
      exact ⟨p, kvs, rfl, .inl h2, by rw [zip_fst _ _ hz]; exact h3, by rw [zip_snd _ _ hz]; exact rd⟩
    · cases h
  · cases h
end
section
variable {X : Cx} {W : WX} {pos : Pos}
/-! ### {} -/
def dnewC : Ev → M Vl := fun _ G => .ok (.ref G.length) (G ++ [.dct []])
def dnewF : Ev → M Vl := fun _ G => .ok (.dat (.dct [])) G
theorem q_dnewC : QE X W (.Dict [] [] pos) dnewC := pe_dnewK.imp fun σ H Q ⟨hd, as, ρ, G, a, q⟩ p hp => by
  obtain ⟨w2, e2⟩ := a.wd.cellNew (go := .dct []) (o := .dK []) hp (fun F k => ⟨[], upd_same, rfl, .nil⟩) rfl
  exact q _ _ (.ref p) e2 w2 ⟨p, by rw [← a.wd.len]; simp, rfl⟩
theorem q_dnewF : QE X W (.Dict [] [] pos) dnewF := pe_dnewK.imp fun σ H Q ⟨hd, as, ρ, G, a, q⟩ p hp => by
  obtain ⟨w2, e2, f2⟩ := a.wd.new (.dK []) hp
  exact q as _ (.ref p) e2 w2 (RelD.dct (.inl f2) rfl .nil)
/-! ### list(d), tuple(d) -/
def keysF : Vl → Gh → Option (Vl × Gh) := fun x G => (dctK x G).map fun ks => (.dat (.lst ks), G)
def keysT : Vl → Gh → Option (Vl × Gh) := fun x G => (dctK x G).map fun ks => (.dat (.tup ks), G)
/-- tuple(x), x a list, a tuple, a dict -/
def tupleA : Vl → Gh → Option (Vl × Gh) := fun x G => match dctK x G with
  | some ks => some (.dat (.tup ks), G)
  | none => tupleO x G
def listA : Vl → Gh → Option (Vl × Gh) := fun x G => match dctK x G with
  | some ks => some (.dat (.lst ks), G)
  | none => listF x G
theorem tupD_call (hc : X.calm = true) : CallR X (.type "tuple") (fun xs H Q => ∃ (a : Addr) (kvs : List (Key × V)), xs = [.ref a] ∧ Rd H a (.dK kvs) ∧ ∀ p, H p = none → Q (.ref p) (upd H p (.tup (kvs.map fun kv => kV kv.1)))) := by
  intro pins s σ H xs us Q I r ⟨a, kvs, ex, hd, q⟩
  subst ex
  obtain ⟨u, eu, rx⟩ := vals1 r
  subst eu
  cases rx
  obtain ⟨z, lo, vs, rel, dd⟩ := dk_rd I.hok hd
  obtain ⟨ep, hat⟩ := dd.dictAt
  have ek : (kvs.map fun kv => kV kv.1) = vs.map fun p => kV p.1 := by
    have e := congrArg (List.map kV) rel.keys
    rwa [List.map_map, List.map_map] at e
  refine tuple_kdl (PySem.W.kdl_dict (knd := mixKind X.prog X.w) (kvs := vs) (ep := ep) lo) (I.ok.hd hc) hat (by rw [← rel.length]; exact z) fun h' tk acc hk hi => ?_
  have hv : Vals (vs.map fun p => kV p.1) acc.toList := keys_at (by rw [Array.length_toList]; exact hi.1) fun j v e => hi.2 j v (by rw [← Array.getElem?_toList]; exact e)
  have I1 : Inv X pins σ H { s with heap := h', toks := tk } := I.kept hk
  have I2 : Inv X pins σ (upd H h'.objs.size (.tup (kvs.map fun kv => kV kv.1))) { s with heap := h'.push { cls := .type "tuple", data := .seq acc }, toks := tk } :=
    I1.laid (t' := tk) (fun b o e => Heap.get?_push_of_some _ e) (Nat.le_refl _) (show ObjOk X.prog X.w _ _ _ (.tup _) from ⟨by rw [List.length_map]; exact z, acc.toList, by rw [ek]; exact hv, by
      have n := IsTup.new h' acc
      rw [Array.toArray_toList]
      exact n⟩)
  exact ⟨.ref h'.objs.size, _, I2, rfl, q _ (I1.hok.fresh (Nat.le_refl _))⟩
theorem cl_tupleA (hc : X.calm = true) : CallL X (.type "tuple") (oneO tupleA) := by
  intro pins s σ H xs us Q hd as G a I r w ra q
  cases ra with
  | nil => exact q.elim
  | @cons x v l1 l2 r1 r2 =>
    cases r2 with
    | cons _ _ => exact q.elim
    | nil =>
      have q : ResO X.K hd as G H (tupleA x G) Q := q
      unfold tupleA at q
      cases e : dctK x G with
      | none =>
        rw [e] at q
        exact cl_tuple pins s σ H _ us Q hd as G [x] I r w (.cons r1 .nil) q
      | some ks =>
        rw [e] at q
        obtain ⟨p, kvs, ev, h1, h2⟩ := dctK_rel w r1 e
        exact tupD_call hc pins s σ H _ us Q I r ⟨p, kvs, by rw [ev], h1, fun z hz => ResO.new w q hz fun F k f => .tup (SqT.of f) (by rw [h2]; exact keysD_rel kvs)⟩
theorem cl_listA (hc : X.calm = true) : CallL X (.type "list") (oneO listA) := by
  intro pins s σ H xs us Q hd as G a I r w ra q
  cases ra with
  | nil => exact q.elim
  | @cons x v l1 l2 r1 r2 =>
    cases r2 with
    | cons _ _ => exact q.elim
    | nil =>
      have q : ResO X.K hd as G H (listA x G) Q := q
      unfold listA at q
      cases e : dctK x G with
      | none =>
        rw [e] at q
        exact cl_list pins s σ H _ us Q hd as G [x] I r w (.cons r1 .nil) q
      | some ks =>
        rw [e] at q
        obtain ⟨p, kvs, ev, h1, h2⟩ := dctK_rel w r1 e
        exact call_listD hc pins s σ H _ us Q I r ⟨p, kvs, by rw [ev], h1, fun z hz => ResO.new w q hz fun F k f => .lst (.inl f) (by rw [h2]; exact keysD_rel kvs)⟩
/-! ### dict([(k, v), ..]) -/
/-- one pair -/
def pairOf (x : Vl) : Option (Key × Vl) := match x with
  | .dat (.tup [k, v]) => (keyOf k).map fun k => (k, .dat v)
  | .pr k i => (keyOf k).map fun k => (k, .ref i)
  | _ => none
def itemsV (x : Vl) (G : Gh) : Option (List Vl) := match x with
  | .dat (.lst l) => some (l.map .dat)
  | .ref i => (match G[i]? with
    | some (.lst l) => some l
    | _ => none)
  | _ => none
def mergeD (l : List (D × Vl)) (ps : List (Key × Vl)) : List (D × Vl) := ps.foldl (fun acc p => putD acc p.1 p.2) l
/-- a new cell -/
def dictC : Vl → Gh → Option (Vl × Gh) := fun x G => ((itemsV x G).bind (mapO pairOf)).map fun ps => (.ref G.length, G ++ [.dct (mergeD [] ps)])
/-- data -/
def dictF : Vl → Gh → Option (Vl × Gh) := fun x G => (((itemsV x G).bind (mapO pairOf)).bind fun ps => (allDat ((mergeD [] ps).map (·.2))).map fun ds => ((mergeD [] ps).map (·.1)).zip ds).map fun l => (.dat (.dct l), G)
theorem mergeD_rel {P : Vl → V → Prop} : ∀ {ps : List (Key × Vl)} {qs : List (Key × V)} {l : List (D × Vl)} {kvs : List (Key × V)}, Paired (fun p q => p.1 = q.1 ∧ P p.2 q.2) ps qs → l.map (·.1) = kvs.map (fun p => keyD p.1) → Paired P (l.map (·.2)) (kvs.map (·.2)) →
    (mergeD l ps).map (·.1) = (mergeK kvs qs).map (fun p => keyD p.1) ∧ Paired P ((mergeD l ps).map (·.2)) ((mergeK kvs qs).map (·.2))
  | _, _, _, _, .nil, h1, h2 => ⟨h1, h2⟩
  | (k, x) :: ps, (k', v) :: qs, l, kvs, .cons r t, h1, h2 => by
    obtain ⟨e, rx⟩ := r
    have e : k = k' := e
    subst e
    obtain ⟨g1, g2⟩ := putD_rel (k := k) h1 h2 rx
    have t' := mergeD_rel (ps := ps) (qs := qs) (l := putD l k x) (kvs := putK kvs k v) t g1 g2
    exact t'
theorem itemsV_rel {K : PySem.W.Frag} {hd as : List Addr} {G : Gh} {H : Hp} {x : Vl} {v : V} {l : List Vl} (w : Wd K hd as G H) (r : RelVl K as (Fz hd as G H) x v) (h : itemsV x G = some l) : ∃ a xs, v = .ref a ∧ SqL K H a xs ∧ RelVls K as (Fz hd as G H) l xs := by
  unfold itemsV at h
  split at h
  · cases h
    cases r with
    | lst h1 h2 => exact ⟨_, _, rfl, .inl (Fz.rd h1), rels_map h2⟩
  · obtain ⟨p, hp, rfl⟩ := r
    split at h
    · rename_i l' eg
      cases h
      obtain ⟨xs, h1, h2⟩ := w.at eg hp
      exact ⟨p, xs, rfl, .inl (.inl h1), h2⟩
    · cases h
  · cases h
theorem pairs_rel {K : PySem.W.Frag} {hd as : List Addr} {G : Gh} {H : Hp} : ∀ {l : List Vl} {xs : List V} {ps : List (Key × Vl)}, RelVls K as (Fz hd as G H) l xs → mapO pairOf l = some ps →
    ∃ (qs : List Addr) (kvs : List (Key × V)), xs = qs.map V.ref ∧ Paired (fun p kv => SqT K H p [kV kv.1, kv.2]) qs kvs ∧ Paired (fun p q => p.1 = q.1 ∧ RelVl K as (Fz hd as G H) p.2 q.2) ps kvs
  | [], _, _, r, h => by cases r; cases h; exact ⟨[], [], rfl, .nil, .nil⟩
  | y :: l, _, _, r, h => by
    obtain ⟨p, ps, rfl, h1, h2⟩ := mapO_cons h
    cases r with
    | cons r1 r2 =>
      obtain ⟨qs, kvs, e1, e2, e3⟩ := pairs_rel r2 h2
      unfold pairOf at h1
      split at h1
      · rename_i k v
        obtain ⟨kk, hk, rfl⟩ := Option.map_eq_some_iff.mp h1
        cases r1 with
        | @tup _ a zs g1 g2 =>
          cases g2 with
          | cons ga gb =>
            cases gb with
            | cons gb gc =>
              cases gc
              have ek := keyOf_rel ga hk
              subst ek
              exact ⟨a :: qs, (kk, _) :: kvs, by rw [e1]; rfl, .cons (Fz.sqT g1) e2, .cons ⟨rfl, gb⟩ e3⟩
      · rename_i k i
        obtain ⟨kk, hk, rfl⟩ := Option.map_eq_some_iff.mp h1
        obtain ⟨a, u, b, rfl, g1, g2, g3⟩ := r1
        have ek := keyOf_rel g2 hk
        subst ek
        exact ⟨a :: qs, (kk, .ref b) :: kvs, by rw [e1]; rfl, .cons (Fz.sqT g1) e2, .cons ⟨rfl, b, g3, rfl⟩ e3⟩
      · cases h1
theorem cl_dictC (hc : X.calm = true) : CallL X (.type "dict") (oneO dictC) := one_of (call_dictP hc) fun hd as G H a x Q w ra q => by
  unfold dictC at q
  cases e : (itemsV a G).bind (mapO pairOf) with
  | none => rw [e] at q; exact q.elim
  | some ps =>
    rw [e] at q
    obtain ⟨l, h1, h2⟩ := Option.bind_eq_some_iff.mp e
    obtain ⟨p, xs, ev, h3, h4⟩ := itemsV_rel w ra h1
    obtain ⟨qs, kvs, e1, e2, e3⟩ := pairs_rel h4 h2
    subst e1
    refine ⟨p, qs, kvs, by rw [ev], h3, e2, fun z hz => ?_⟩
    obtain ⟨m1, m2⟩ := mergeD_rel (P := RelVl X.K as (Fz hd as G H)) (l := []) (kvs := []) e3 rfl .nil
    obtain ⟨w2, ee2⟩ := w.cellNew (go := .dct (mergeD [] ps)) (o := .dK (mergeK [] kvs)) hz (fun F k => ⟨_, upd_same, m1, Paired.mapP m2 fun _ _ t => t.mono (List.prefix_append _ _) k⟩) rfl
    exact q _ _ (.ref z) ee2 w2 ⟨z, by rw [← w.len]; simp, rfl⟩
theorem cl_dictF (hc : X.calm = true) : CallL X (.type "dict") (oneO dictF) := one_of (call_dictP hc) fun hd as G H a x Q w ra q => by
  unfold dictF at q
  cases e : (itemsV a G).bind (mapO pairOf) with
  | none => rw [e] at q; exact q.elim
  | some ps =>
    rw [e] at q
    simp only [Option.bind_some] at q
    cases ed : allDat ((mergeD [] ps).map (·.2)) with
    | none => rw [ed] at q; exact q.elim
    | some ds =>
      rw [ed] at q
      obtain ⟨l, h1, h2⟩ := Option.bind_eq_some_iff.mp e
      obtain ⟨p, xs, ev, h3, h4⟩ := itemsV_rel w ra h1
      obtain ⟨qs, kvs, e1, e2, e3⟩ := pairs_rel h4 h2
      subst e1
      refine ⟨p, qs, kvs, by rw [ev], h3, e2, fun z hz => ?_⟩
      obtain ⟨m1, m2⟩ := mergeD_rel (P := RelVl X.K as (Fz hd as G H)) (l := []) (kvs := []) e3 rfl .nil
      have rd := allDat_rel ed m2
      have hl : ((mergeD [] ps).map (·.1)).length = ds.length := by
        have a1 := congrArg List.length m1
        have a2 := rd.length
        simp only [List.length_map] at a1 a2 ⊢
        omega
      exact ResO.new w q hz fun F k f => .dct (.inl f) (by rw [zip_fst _ _ hl]; exact m1) (by rw [zip_snd _ _ hl]; exact rd.mono k)
/-! ### d.update(e) -/
def isDct (x : Vl) (G : Gh) : Bool := match x with
  | .ref i => (match G[i]? with
    | some (.dct _) => true
    | _ => false)
  | _ => false
theorem tyk_dct {K : PySem.W.Frag} : TyK K "dict" isDct := fun hd as G H y x w r h => by
  unfold isDct at h
  split at h
  · obtain ⟨p, hp, rfl⟩ := r
    split at h
    · rename_i l eg
      obtain ⟨kvs, h1, _⟩ := w.at eg hp
      exact .inr (.inr (.inl ⟨rfl, .inl ⟨kvs, h1⟩⟩))
    · cases h
  · cases h
def notSame (x : Vl) (i : Nat) : Bool := match x with
  | .ref j => decide (j ≠ i)
  | _ => true
def updateO : Vl → OA := fun y a G => match y, a with
  | .ref i, [x] => (match G[i]?, dctD x G with
    | some (.dct l), some es => if l.length + es.length ≤ sizeLine ∧ notSame x i = true then (match keysD (es.map (·.1)) with
      | some ks => some (.dat .non, G.set i (.dct (mergeD l (ks.zip (es.map fun p => .dat p.2)))))
      | none => none) else none
    | _, _ => none)
  | _, _ => none
theorem mt_upd : MtR X "dict.update" (fun x vs H Q => ∃ d o kvs more, x = .ref d ∧ vs = [.ref o] ∧ d ≠ o ∧ H d = some (.dK kvs) ∧ Rd H o (.dK more) ∧ kvs.length + more.length ≤ sizeLine ∧ Q .non (upd H d (.dK (mergeK kvs more)))) := by
  intro pins s σ H x vs v us Q I rx rv ⟨d, o, kvs, more, ex, ev, hne, hd, ho, hz, q⟩
  subst ex ev
  cases rx
  obtain ⟨u, rfl, ru⟩ := rv.one
  cases ru
  obtain ⟨z1, lo1, vs1, rel1, dd1⟩ := dk_of I.hok hd
  obtain ⟨z2, lo2, vs2, rel2, dd2⟩ := dk_rd I.hok ho
  have hm := rel2.merge rel1
  refine call_meetsIn PySem.F.slot_dict_update dd1.typeIs PySem.F.entry_dict_update (PySem.F.args_dict_update_2 _ _) (meets_dict_update (mixKind X.prog X.w) d o hne lo2)
    ⟨vs1, vs2, dd1, dd2, by rw [← rel1.length, ← rel2.length]; exact hz, fun h' hd' ho' hs => ?_⟩
  have hl : (mergeK kvs more).length ≤ kvs.length + more.length := by
    have g : ∀ (m k : List (Key × V)), (mergeK k m).length ≤ k.length + m.length := fun m => by
      induction m with
      | nil => intro k; exact Nat.le_refl _
      | cons p m ih =>
        intro k
        have i1 := ih (putK k p.1 p.2)
        have i2 := length_putK k p.1 p.2
        show (mergeK (putK k p.1 p.2) m).length ≤ k.length + (m.length + 1)
        omega
    exact g more kvs
  exact ⟨.non, _, d_write (t' := s.toks) I (by rw [hd]; exact True.intro) hs (let ⟨q, _, _, hq, _⟩ := hd'; ⟨q, hq⟩) (dk_new (by omega) lo1 hm hd'), rfl, q⟩
theorem keysD_all {K : PySem.W.Frag} {as : List Addr} {F : Hp} : ∀ {es : List (D × D)} {ks : List Key} {kvs : List (Key × V)}, keysD (es.map (·.1)) = some ks → es.map (·.1) = kvs.map (fun p => keyD p.1) → RelDs K F (es.map (·.2)) (kvs.map (·.2)) →
    Paired (fun (p : Key × Vl) q => p.1 = q.1 ∧ RelVl K as F p.2 q.2) (ks.zip (es.map fun p => Vl.dat p.2)) kvs
  | [], _, [], h, _, _ => by cases h; exact .nil
  | [], _, _ :: _, _, e, _ => by simp at e
  | _ :: _, _, [], _, e, _ => by simp at e
  | (d, v) :: es, ks, (k, u) :: kvs, h, e, r => by
    simp only [List.map_cons, List.cons.injEq] at e
    obtain ⟨e1, e2⟩ := e
    subst e1
    have h' : (match keyOf (keyD k), keysD (es.map (·.1)) with
      | some k, some ks => some (k :: ks)
      | _, _ => none) = some ks := h
    have ek : keyOf (keyD k) = some k := by cases k <;> rfl
    rw [ek] at h'
    cases er : keysD (es.map (·.1)) with
    | none => rw [er] at h'; cases h'
    | some ks' =>
      rw [er] at h'
      cases h'
      cases r with
      | cons r1 r2 => exact .cons ⟨rfl, r1⟩ (keysD_all er e2 r2)
theorem nd_inj {α : Type} : ∀ {l : List α} {i j : Nat} {a : α}, l.Nodup → l[i]? = some a → l[j]? = some a → i = j
  | [], _, _, _, _, h, _ => by simp at h
  | x :: l, 0, 0, _, _, _, _ => rfl
  | x :: l, 0, j + 1, a, n, h, g => by
    simp at h g
    exact absurd (h ▸ List.mem_of_getElem? g) (List.nodup_cons.mp n).1
  | x :: l, i + 1, 0, a, n, h, g => by
    simp at h g
    exact absurd (g ▸ List.mem_of_getElem? h) (List.nodup_cons.mp n).1
  | x :: l, i + 1, j + 1, a, n, h, g => by
    simp at h g
    rw [nd_inj (List.nodup_cons.mp n).2 h g]
theorem ml_update : MtR X "dict.update" (lowM X.K updateO) := MtL.of mt_upd fun hd as G H y a x xs Q w ry ra q => by
  unfold updateO at q
  split at q
  · rename_i i z
    obtain ⟨p, hp, rfl⟩ := ry
    cases eg : G[i]? with
    | none => simp only [eg] at q; exact q.elim
    | some go =>
      cases go with
      | dct l =>
        cases el : dctD z G with
        | none => simp only [eg, el] at q; exact q.elim
        | some es =>
          simp only [eg, el] at q
          split at q
          · rename_i hz
            cases ek : keysD (es.map (·.1)) with
            | none => simp only [ek] at q; exact q.elim
            | some ks =>
              simp only [ek] at q
              obtain ⟨kvs, h1, h2, h3⟩ := w.at eg hp
              cases ra with
              | cons ra rn =>
                cases rn
                obtain ⟨b, more, e1, g1, g2, g3⟩ := dctD_rel w ra el
                have hne : p ≠ b := fun e => by
                  subst e
                  cases z with
                  | dat dd =>
                    cases dd with
                    | dct l' =>
                      cases ra with
                      | @dct _ pa kv hh1 hh2 hh3 =>
                        cases e1
                        have live : liveB as G p = true := liveB_iff.mpr ⟨i, _, hp, eg, rfl⟩
                        have no : Fz hd as G H p = none := by unfold Fz; rw [live, Bool.or_true, if_pos rfl]
                        rcases hh1 with hh1 | ⟨o, hh1⟩ <;> (rw [no] at hh1; cases hh1)
                    | _ => cases el
                  | pr _ _ => cases el
                  | ref j =>
                    obtain ⟨b', hb, eb⟩ := ra
                    rw [e1] at eb
                    cases eb
                    have hj : j ≠ i := by simpa [notSame] using hz.2
                    exact hj (nd_inj w.nd hb hp)
                obtain ⟨m1, m2⟩ := mergeD_rel (P := RelVl X.K as (Fz hd as G H)) (keysD_all (as := as) ek g2 g3) h2 h3
                obtain ⟨w2, e2⟩ := w.upd (go' := .dct (mergeD l (ks.zip (es.map fun p => .dat p.2)))) (o' := .dK (mergeK kvs more)) hp eg rfl rfl ⟨_, upd_same, m1, m2⟩
                have n1 : kvs.length = l.length := by have := congrArg List.length h2; simp only [List.length_map] at this; exact this.symm
                have n2 : more.length = es.length := by have := congrArg List.length g2; simp only [List.length_map] at this; exact this.symm
                exact ⟨p, b, kvs, more, rfl, by rw [e1], hne, h1, g1, by rw [n1, n2]; exact hz.1, q as _ .non e2 w2 RelD.non⟩
          · exact q.elim
      | _ => simp only [eg] at q; exact q.elim
  · exact q.elim
end
end DL
end L2

/-! DL22: sorted(list), repr -/
namespace L2
namespace DL
open PySem PySem.Spec PyProof.Rows
variable [HasW]
/-! ### sorted -/
def allAlikeB (ps : List PyData) : Bool := ps.all fun p => ps.all fun q => PySem.W.alike p q
def sortableB (ps : List PyData) : Bool := (ps.all fun p => match p with
  | .tuple (_ :: _) => true
  | _ => false) || ps.all fun p => match p with
  | .none => false
  | .tuple _ => false
  | _ => true
def shallowB (ps : List PyData) : Bool := ps.all fun p => decide (p.depth ≤ 60)
def sortD (l : List D) : Option (List D) := match pys l with
  | some ps => if (allAlikeB ps && sortableB ps && shallowB ps) = true then some (((l.zip ps).mergeSort (PySem.W.dataLe false (·.2))).map (·.1)) else none
  | none => none
def sortedO : Vl → Gh → Option (Vl × Gh) := fun x G => ((listD x G).bind sortD).map fun l => (.dat (.lst l), G)
theorem allAlikeB_ok {ps : List PyData} (h : allAlikeB ps = true) : PySem.W.AllAlike ps := fun d hd d' hd' => by
  unfold allAlikeB at h
  exact List.all_eq_true.mp (List.all_eq_true.mp h d hd) d' hd'
theorem sortableB_ok {ps : List PyData} (h : sortableB ps = true) : PySem.W.Sortable ps := by
  unfold sortableB at h
  rcases Bool.or_eq_true_iff.mp h with h | h
  · refine .inl fun d hd => ?_
    have := List.all_eq_true.mp h d hd
    split at this
    · exact ⟨_, _, rfl⟩
    · cases this
  · refine .inr fun d hd => ?_
    have := List.all_eq_true.mp h d hd
    split at this
    · cases this
    · cases this
    · rename_i n1 n2
      exact ⟨n1, n2⟩
theorem each_of {X : Cx} {pins : List (Addr × Obj)} {σ : St} {H : Hp} {s : Shared} (I : Inv X pins σ H s) {F : Hp} (hF : ∀ a o, F a = some o → H a = some o) : ∀ {l : List D} {ps : List PyData} {xs : List V} {us : List Value}, RelDs X.K F l xs → pys l = some ps → Vals xs us →
    PySem.W.EachIs (fun u (b : D × PyData × V) => RelV b.2.2 u ∧ RelD X.K F b.1 b.2.2) us (l.zip (ps.zip xs)) ∧ PySem.W.EachIs (fun u (b : D × PyData × V) => ∃ as, Reads s.heap u b.2.1 as) us (l.zip (ps.zip xs))
  | [], _, _, _, r, h, v => by cases r; cases h; cases v; exact ⟨.nil, .nil⟩
  | d :: l, _, _, _, r, h, v => by
    obtain ⟨p, qs, rfl, h1, h2⟩ := pys_cons h
    cases r with
    | cons r1 r2 =>
      cases v with
      | cons v1 v2 =>
        obtain ⟨i1, i2⟩ := each_of I hF r2 h2 v2
        exact ⟨.cons ⟨v1, r1⟩ i1, .cons (Dp.reads I p _ _ (py_dp (r1.mono hF) h1) v1) i2⟩
theorem zip3_py : ∀ {l : List D} {ps : List PyData} {xs : List V}, l.length = ps.length → ps.length = xs.length → (l.zip (ps.zip xs)).map (fun b => b.2.1) = ps ∧ (l.zip (ps.zip xs)).map (fun b => (b.1, b.2.1)) = l.zip ps
  | [], [], [], _, _ => ⟨rfl, rfl⟩
  | d :: l, p :: ps, x :: xs, h1, h2 => by
    obtain ⟨i1, i2⟩ := zip3_py (l := l) (ps := ps) (xs := xs) (by simpa using h1) (by simpa using h2)
    exact ⟨by simp [i1], by simp [i2]⟩
  | [], _ :: _, _, h, _ => by simp at h
  | _ :: _, [], _, h, _ => by simp at h
  | [], [], _ :: _, _, h => by simp at h
  | _ :: _, _ :: _, [], _, h => by simp at h
theorem pys_len : ∀ {l : List D} {ps : List PyData}, pys l = some ps → l.length = ps.length
  | [], _, h => by cases h; rfl
  | d :: l, _, h => by
    obtain ⟨p, qs, rfl, h1, h2⟩ := pys_cons h
    simp [pys_len h2]
theorem each_out {X : Cx} {F : Hp} : ∀ {out : List Value} {bs : List (D × PyData × V)}, PySem.W.EachIs (fun u (b : D × PyData × V) => RelV b.2.2 u ∧ RelD X.K F b.1 b.2.2) out bs → Vals (bs.map (·.2.2)) out ∧ RelDs X.K F (bs.map (·.1)) (bs.map (·.2.2))
  | _, _, .nil => ⟨.nil, .nil⟩
  | _, _, .cons h t => let ⟨a, b⟩ := each_out t; ⟨.cons h.1 a, .cons h.2 b⟩
theorem sorted_low {X : Cx} (hu : X.A.units + 64 < cLine) : CallR X (.builtin "sorted") (fun vs H Q => ∃ (F : Hp) (a : Addr) (xs : List V) (l ys : List D), (∀ a o, F a = some o → H a = some o) ∧ vs = [.ref a] ∧ SqL X.K H a xs ∧ RelDs X.K F l xs ∧ sortD l = some ys ∧
    ∀ zs p, RelDs X.K F ys zs → H p = none → Q (.ref p) (upd H p (.lst zs))) := by
  intro pins s σ H vs us Q I r ⟨F, a, xs, l, ys, hF, ex, hs, rl, hd, q⟩
  subst ex
  obtain ⟨its, rv, hl, hz⟩ := I.list hs
  obtain ⟨u, rfl, ru⟩ := vals1 r
  obtain rfl : u = Value.ref a := ru
  unfold sortD at hd
  cases ep : pys l with
  | none => rw [ep] at hd; cases hd
  | some ps =>
    rw [ep] at hd
    simp only at hd
    split at hd
    · rename_i hb
      simp only [Bool.and_eq_true] at hb
      obtain ⟨⟨b1, b2⟩, b3⟩ := hb
      cases hd
      obtain ⟨e1, e2⟩ := each_of I hF rl ep rv
      have n1 := pys_len ep
      have n2 : ps.length = xs.length := by rw [← n1]; exact rl.length
      obtain ⟨m1, m2⟩ := zip3_py n1 n2
      have nb : (l.zip (ps.zip xs)).length = xs.length := by simp [n1, n2]
      refine PySem.W.sorted_data (enc := fun b => b.2.1) hl.isList e1 e2 (by rw [m1]; exact allAlikeB_ok b1) (by rw [m1]; exact sortableB_ok b2) (by rw [nb]; exact hz) (fun b hbm => ?_) fun out ho eo => ?_
      · have hm : b.2.1 ∈ ps := by
          have : b.2.1 ∈ (l.zip (ps.zip xs)).map (fun b => b.2.1) := List.mem_map.mpr ⟨b, hbm, rfl⟩
          rw [m1] at this
          exact this
        have hd := of_decide_eq_true (List.all_eq_true.mp b3 _ hm)
        omega
      · obtain ⟨v1, v2⟩ := each_out (X := X) eo
        obtain ⟨n, hn⟩ := sortedAll_at s.heap its out.toArray
        have hmap : ((l.zip ps).mergeSort (PySem.W.dataLe false (·.2))).map (·.1) = ((l.zip (ps.zip xs)).mergeSort (PySem.W.dataLe false fun b => b.2.1)).map (·.1) := by
          rw [← m2, ← List.map_mergeSort (r := PySem.W.dataLe false fun b : D × PyData × V => b.2.1) (s := PySem.W.dataLe false fun b : D × PyData => b.2) (f := fun b : D × PyData × V => (b.1, b.2.1)) (fun a _ b _ => rfl), List.map_map]
          rfl
        refine ⟨.ref (s.heap.objs.size + 1), upd H (s.heap.objs.size + 1) (.lst _), I.laid (t' := s.toks) (fun b o e => sortedAll_old e) (Nat.le_succ _) ⟨?_, out, n, v1, hn⟩, rfl, q _ _ ?_ (I.hok.fresh (Nat.le_succ _))⟩
        · rw [List.length_map, List.length_mergeSort, nb]; exact hz
        · rw [hmap]; exact v2
    · cases hd
section
variable {X : Cx}
theorem cl_sorted (hu : X.A.units + 64 < cLine) : CallL X (.builtin "sorted") (oneO sortedO) := one_of (sorted_low hu) fun hd as G H a x Q w ra q => by
  unfold sortedO at q
  cases e : (listD a G).bind sortD with
  | none => rw [e] at q; exact q.elim
  | some ys =>
    rw [e] at q
    obtain ⟨l, h1, h2⟩ := Option.bind_eq_some_iff.mp e
    obtain ⟨p, xs, ev, h3, h4⟩ := listD_rel w ra h1
    exact ⟨Fz hd as G H, p, xs, l, ys, fun _ _ => Fz.of, by rw [ev], .inl h3, h4, h2, fun zs z rz hz => ResO.new w q hz fun F k f => .lst (.inl f) (rz.mono k)⟩
end
end DL
end L2

/-! DL23: repr; tuples with a starred part -/
namespace L2
namespace DL
open PySem PySem.Spec PyProof.Rows
variable [HasW]
mutual
theorem py_noDict : ∀ {d : D} {p : PyData}, py d = some p → p.hasDict = false
  | .non, _, h => by unfold py at h; cases h; rfl
  | .bl _, _, h => by unfold py at h; cases h; rfl
  | .int _, _, h => by unfold py at h; cases h; rfl
  | .str _, _, h => by unfold py at h; cases h; rfl
  | .tup l, _, h => by
    unfold py at h
    obtain ⟨ps, h1, rfl⟩ := Option.map_eq_some_iff.mp h
    unfold PyData.hasDict
    exact pys_noDict h1
  | .lst l, _, h => by
    unfold py at h
    obtain ⟨ps, h1, rfl⟩ := Option.map_eq_some_iff.mp h
    unfold PyData.hasDict
    exact pys_noDict h1
  | .dct _, _, h => by unfold py at h; cases h
  | .dcN _, _, h => by unfold py at h; cases h
  | .set _, _, h => by unfold py at h; cases h
  | .obj _ _, _, h => by unfold py at h; cases h
  | .exc _ _, _, h => by unfold py at h; cases h
theorem pys_noDict : ∀ {ds : List D} {ps : List PyData}, pys ds = some ps → PyData.hasDictAll ps = false
  | [], _, h => by unfold pys at h; cases h; rfl
  | d :: ds, _, h => by
    obtain ⟨p, qs, rfl, h1, h2⟩ := pys_cons h
    unfold PyData.hasDictAll
    rw [py_noDict h1, pys_noDict h2]
    rfl
end
/-- the text of data -/
def reprD (d : D) : Option Str := match py d with
  | some p => if p.showable = true ∧ p.shown.length ≤ sizeLine ∧ p.depth ≤ 60 then some p.shown else none
  | none => none
def reprO : Vl → Gh → Option (Vl × Gh) := fun x G => ((look x G).bind reprD).map fun z => (.dat (.str z), G)
section
variable {X : Cx}
theorem repr_low (hg : X.A.guards = some []) (hu : X.A.units + 64 < cLine) : CallR X (.builtin "repr") (fun vs H Q => ∃ (x : V) (d : D) (z : Str), vs = [x] ∧ RelD X.K H d x ∧ reprD d = some z ∧ Q (.str z) H) := by
  intro pins s σ H vs us Q I r ⟨x, d, z, ex, rd, hz, q⟩
  subst ex
  obtain ⟨u, rfl, ru⟩ := vals1 r
  unfold reprD at hz
  cases ep : py d with
  | none => rw [ep] at hz; cases hz
  | some p =>
    rw [ep] at hz
    simp only at hz
    split at hz
    · rename_i hh
      cases hz
      obtain ⟨h1, h2, h3⟩ := hh
      obtain ⟨as, rds⟩ := Dp.reads I p x u (py_dp rd ep) ru
      have nd := py_noDict ep
      cases rds with
      | none => exact PySem.P.repr_of_none ⟨.str _, H, I.tok _, ⟨_, rfl⟩, q⟩
      | bool b => exact PySem.P.repr_of_bool ⟨.str _, H, I.tok _, ⟨_, rfl⟩, q⟩
      | int i t => exact PySem.P.repr_of_int (of_decide_eq_true h1) ⟨.str _, H, I.tok _, ⟨_, rfl⟩, q⟩
      | str y t => exact PySem.P.repr_of_str ⟨.str _, H, I.tok _, ⟨_, rfl⟩, q⟩ h2
      | list g1 g2 g3 g4 => exact repr_of_reads' (.list g1 g2 g3 g4) h1 (PyData.noDict_hsm nd) hg (by omega) (fun _ _ e => e) (fun h' t tk k => ⟨.str _, H, I.kept k, ⟨_, rfl⟩, q⟩) h2
      | tuple g1 g2 g3 g4 => exact repr_of_reads' (.tuple g1 g2 g3 g4) h1 (PyData.noDict_hsm nd) hg (by omega) (fun _ _ e => e) (fun h' t tk k => ⟨.str _, H, I.kept k, ⟨_, rfl⟩, q⟩) h2
      | dict _ _ _ _ _ => first | (cases nd) | (simp [PyData.hasDict] at nd)
    · cases hz
theorem cl_repr (hg : X.A.guards = some []) (hu : X.A.units + 64 < cLine) : CallL X (.builtin "repr") (oneO reprO) := one_of (repr_low hg hu) fun hd as G H a x Q w ra q => by
  unfold reprO at q
  cases e : (look a G).bind reprD with
  | none => rw [e] at q; exact q.elim
  | some z =>
    rw [e] at q
    obtain ⟨d, h1, h2⟩ := Option.bind_eq_some_iff.mp e
    exact ⟨x, d, z, rfl, look_rel w ra h1, h2, ResO.dat w (RelD.str _) q⟩
end
end DL
end L2

/-! DL24: dict comprehensions of two clauses (the layer has one) -/
namespace L2
namespace DL
open PySem PySem.Spec PyProof.Rows
variable [HasW]
abbrev DC2 (kx vx ta ia tb ib : Expr) (fa fb : List Expr) (scope : Scope) (pos : Pos) : Expr := .DictComp kx vx [⟨ta, ia, fa, 0⟩, ⟨tb, ib, fb, 0⟩] scope pos
theorem dc2_turnA (kx vx ta ia tb ib : Expr) (fa fb : List Expr) (scope : Scope) (pos : Pos) (it acc : Value) (env : Env) :
    compTurn (DC2 kx vx ta ia tb ib fa fb scope pos) 0 it acc env = (do
      standAt ia.pos
      match ← pyNext it with
      | none => pure (.done .next)
      | some v =>
        letOwnedTupleGo ta it v
        assign ta env v
        let mut ok := true
        for c in fa do
          if ok then ok ← isTrue c env (eval c env)
        if ok then
          let x ← eval ib env
          standAt ib.pos
          let x ← foldedSetIterable ib env x
          let _ ← runOwn (.compStart (DC2 kx vx ta ia tb ib fa fb scope pos) 1 (← holding [x] (pyIter x)) acc env) env
        again (.compLoop (DC2 kx vx ta ia tb ib fa fb scope pos) 0 it acc env)) := by rfl
theorem dc2_turnB (kx vx ta ia tb ib : Expr) (fa fb : List Expr) (scope : Scope) (pos : Pos) (it : Value) (L : Addr) (env : Env) :
    compTurn (DC2 kx vx ta ia tb ib fa fb scope pos) 1 it (.ref L) env = (do
      standAt ib.pos
      match ← pyNext it with
      | none => pure (.done .next)
      | some v =>
        letOwnedTupleGo tb it v
        assign tb env v
        let mut ok := true
        for c in fb do
          if ok then ok ← isTrue c env (eval c env)
        if ok then
          (do let kv ← eval kx env; let vv ← holding [kv] (eval vx env); standAt { kx.pos with endLine := vx.pos.endLine, endCol := vx.pos.endCol }; holding [kv, vv] (dictSet L kv vv))
        again (.compLoop (DC2 kx vx ta ia tb ib fa fb scope pos) 1 it (.ref L) env)) := by rfl
section
variable {prog : Program} {w : World} {A : Around} {R : Result → Shared → Prop} {s : Shared} {kx vx ta ia tb ib : Expr} {fa fb : List Expr} {scope : Scope} {pos : Pos} {it acc : Value} {L : Addr} {env : Env}
abbrev Nb (prog : Program) (w : World) (A : Around) (env : Env) (R : Result → Shared → Prop) : Value → Shared → Prop := notedBy (model prog w) A env fun e s' => R (.error e) s'
theorem dc2_loopA (hs : ∀ x, foldedSetIterable ib env x = pure x) (J : Nat → Shared → Prop)
    (turn : ∀ n s, J n s → wpAny (model prog w) A (pyNext it) (fun r s1 => match r with
      | none => R (.ok .next) s1
      | some v => wpAny (model prog w) A (letOwnedTupleGo ta it v) (fun _ s2 => wpAny (model prog w) A (assign ta env v) (fun _ s3 =>
          wpAny (model prog w) A (forIn fa true fun c r => if r = true then do let ok ← isTrue c env (eval c env); pure (ForInStep.yield ok) else pure (ForInStep.yield r)) (fun ok s4 =>
            if ok = true then wpAny (model prog w) A (eval ib env) (fun x s5 => wpAny (model prog w) A (pyIter x) (fun i2 s6 =>
              codeAny (model prog w) A (.compStart (DC2 kx vx ta ia tb ib fa fb scope pos) 1 i2 acc env) (fun r s7 => match r with
                | .ok _ => ∃ m, m < n ∧ J m s7
                | .error _ => False) s6) (Nb prog w A env R) s5) (Nb prog w A env R) s4
            else ∃ m, m < n ∧ J m s4) (Nb prog w A env R) s3) (Nb prog w A env R) s2) (Nb prog w A env R) s1) (Nb prog w A env R) s)
    (n : Nat) (h : J n s) : codeAny (model prog w) A (.compLoop (DC2 kx vx ta ia tb ib fa fb scope pos) 0 it acc env) R s := by
  refine codeAny_loop rfl J (fun n s hJ => ?_) n h
  show wpAny _ A ((compTurn (DC2 kx vx ta ia tb ib fa fb scope pos) 0 it acc env).onRaise (fun x => do noteFrame x env; theTreesLotGoes x)) _ _ s
  refine wpAny_noted ?_
  rw [dc2_turnA]
  have keep : ∀ (e : Value) (s' : Shared), Nb prog w A env R e s' → Nb prog w A env R e s' := fun _ _ z => z
  refine wpAny_bind (wpAny_standAt (wpAny_bind (wpAny_mono (turn n s hJ) (fun r s1 h1 => ?_) keep)))
  cases r with
  | none => exact wpAny_pure h1
  | some v =>
    refine wpAny_bind (wpAny_mono h1 (fun _ s2 h2 => wpAny_bind (wpAny_mono h2 (fun _ s3 h3 => wpAny_bind (wpAny_mono h3 (fun ok s4 h4 => ?_) keep)) keep)) keep)
    cases ok with
    | false => exact wpAny_pure ⟨rfl, h4⟩
    | true =>
      refine wpAny_bind (wpAny_mono h4 (fun x s5 h5 => wpAny_bind (wpAny_standAt (wpAny_bind (wpAny_of_eq (hs x) (wpAny_bind (wpAny_holding (wpAny_mono h5 (fun i2 s6 h6 => wpAny_bind (wpAny_runOwn ?_)) keep))))))) keep)
      rw [Around.mark_none]
      refine codeAny_mono h6 fun r s7 h7 => ?_
      cases r with
      | ok f => first | exact wpAny_pure ⟨rfl, h7⟩ | exact wpAny_bind (wpAny_pure (wpAny_pure ⟨rfl, h7⟩))
      | error e => exact h7.elim
theorem dc2_loopB (J : Nat → Shared → Prop)
    (turn : ∀ n s, J n s → wpAny (model prog w) A (pyNext it) (fun r s1 => match r with
      | none => R (.ok .next) s1
      | some v => wpAny (model prog w) A (letOwnedTupleGo tb it v) (fun _ s2 => wpAny (model prog w) A (assign tb env v) (fun _ s3 =>
          wpAny (model prog w) A (forIn fb true fun c r => if r = true then do let ok ← isTrue c env (eval c env); pure (ForInStep.yield ok) else pure (ForInStep.yield r)) (fun ok s4 =>
            if ok = true then wpAny (model prog w) A (eval kx env) (fun kv s5 => wpAny (model prog w) A (eval vx env) (fun vv s6 =>
              wpAny (model prog w) A (dictSet L kv vv) (fun _ s7 => ∃ m, m < n ∧ J m s7) (Nb prog w A env R) s6) (Nb prog w A env R) s5) (Nb prog w A env R) s4
            else ∃ m, m < n ∧ J m s4) (Nb prog w A env R) s3) (Nb prog w A env R) s2) (Nb prog w A env R) s1) (Nb prog w A env R) s)
    (n : Nat) (h : J n s) : codeAny (model prog w) A (.compLoop (DC2 kx vx ta ia tb ib fa fb scope pos) 1 it (.ref L) env) R s := by
  refine codeAny_loop rfl J (fun n s hJ => ?_) n h
  show wpAny _ A ((compTurn (DC2 kx vx ta ia tb ib fa fb scope pos) 1 it (.ref L) env).onRaise (fun x => do noteFrame x env; theTreesLotGoes x)) _ _ s
  refine wpAny_noted ?_
  rw [dc2_turnB]
  have keep : ∀ (e : Value) (s' : Shared), Nb prog w A env R e s' → Nb prog w A env R e s' := fun _ _ z => z
  refine wpAny_bind (wpAny_standAt (wpAny_bind (wpAny_mono (turn n s hJ) (fun r s1 h1 => ?_) keep)))
  cases r with
  | none => exact wpAny_pure h1
  | some v =>
    refine wpAny_bind (wpAny_mono h1 (fun _ s2 h2 => wpAny_bind (wpAny_mono h2 (fun _ s3 h3 => wpAny_bind (wpAny_mono h3 (fun ok s4 h4 => ?_) keep)) keep)) keep)
    cases ok with
    | false => exact wpAny_pure ⟨rfl, h4⟩
    | true => exact wpAny_bind (wpAny_bind (wpAny_mono h4 (fun kv s5 h5 => wpAny_bind (wpAny_holding (wpAny_mono h5 (fun vv s6 h6 => wpAny_bind (wpAny_standAt (wpAny_holding (wpAny_mono h6 (fun _ s7 h7 => wpAny_pure ⟨rfl, h7⟩) keep)))) keep))) keep))
theorem dc2_startB (h0 : codeAny (model prog w) A (.compLoop (DC2 kx vx ta ia tb ib fa fb scope pos) 1 it acc env) R s)
    (h : wpAny (model prog w) A (pyIter it) (fun i2 s' => codeAny (model prog w) A (.compLoop (DC2 kx vx ta ia tb ib fa fb scope pos) 1 i2 acc env) R s') (Nb prog w A env R) s) :
    codeAny (model prog w) A (.compStart (DC2 kx vx ta ia tb ib fa fb scope pos) 1 it acc env) R s := by
  refine codeAny_of_tree ?_
  show wpAny _ _ ((compStart (DC2 kx vx ta ia tb ib fa fb scope pos) 1 it acc env).onRaise (fun x => do noteFrame x env; standAt theWindowsPlace)) _ _ s
  refine wpAny_notedAt ?_
  unfold compStart
  show wpAny _ _ (ask >>= _) _ _ s
  refine wpAny_bind (wpAny_askSetting (wpAny_ite ?_))
  split
  · first
      | exact wpAny_bind (wpAny_pure (wpAny_pure (And.intro rfl h0)))
      | exact wpAny_pure (And.intro rfl h0)
  · first
      | exact wpAny_bind (wpAny_rule (wpAny_bind (wpAny_standAt (wpAny_bind (wpAny_mono h (fun i2 s' h' => wpAny_pure (And.intro rfl h')) fun _ _ x => x)))))
      | (refine wpAny_bind (wpAny_rule ?_); show wpAny _ _ (standAt ib.pos >>= _) _ _ s; exact wpAny_bind (wpAny_standAt (wpAny_bind (wpAny_mono h (fun i2 s' h' => wpAny_pure (And.intro rfl h')) fun _ _ x => x))))
end
end DL
end L2

/-! DL25: the reading of a dict comprehension of two clauses, and its rule -/
namespace L2
namespace DL
open PySem PySem.Spec PyProof.Rows
variable [HasW]
/-- vs: the block's names; vb: those of the second target -/
def tDc2 (wi : TI) (g : TG) (tt : TT) (wb : TI) (gb : TG) (tb : TT) (tk tv : TE) (vs vb : List Nat) : TE := fun σ H Q => wi σ H fun J H1 => ∀ L, H1 L = none → ∃ W : Nat → Nat → Hp → Prop, (∃ m, W 0 m (upd H1 L (.dK []))) ∧ ∀ i m H, W i m H →
  (J.stop i H ∧ Q (.ref L) H) ∨ (J.go i H ∧ ∃ Nx : Hp → Prop, (∀ H', Nx H' → ∃ m', m' < m ∧ W (i + 1) m' H') ∧ ∀ x H', J.yld i H x H' → g x (wipe σ vs) H' fun σ2 H2 => wipe σ2 vs = wipe σ vs ∧ tt σ2 H2 fun b H3 =>
    if b = true then wb σ2 H3 fun J1 H4 => ∃ W1 : Nat → Nat → Hp → Prop, (∃ m, W1 0 m H4) ∧ ∀ j k H, W1 j k H →
      (J1.stop j H ∧ Nx H) ∨ (J1.go j H ∧ ∃ Nx1 : Hp → Prop, (∀ H', Nx1 H' → ∃ k', k' < k ∧ W1 (j + 1) k' H') ∧ ∀ x H', J1.yld j H x H' → gb x (wipe σ2 vb) H' fun σ3 H5 => wipe σ3 vb = wipe σ2 vb ∧ tb σ3 H5 fun b H6 =>
        if b = true then tk σ3 H6 fun y H7 => tv σ3 H7 fun z H8 => ∃ kvs kk, y = kV kk ∧ H8 L = some (.dK kvs) ∧ kvs.length < sizeLine ∧ Nx1 (upd H8 L (.dK (putK kvs kk z))) else Nx1 H6)
    else Nx H3)
section
variable {X : Cx} {kx vx ta ia tb ib : Expr} {fa fb : List Expr} {scope : Scope} {own : List (Str × Nat)} {vb : List Nat} {pos : Pos} {wi wb : TI} {g gb : TG} {tt tt1 : TT} {tk tv : TE}
theorem pe_dc2 (hc : X.calm = true) (hN : X.N.Nodup) (hi : PI X ta ia wi) (ok : BlkOk X.N X.env.scope scope own) (hv : ∀ i ∈ vb, i ∈ own.map (·.2))
    (hg : ∀ (s : Shared) (H : Hp) (C : Addr) (cl : List (Str × Addr)) (fp : List Addr), PG (X.blk s H scope (compEnvC scope cl C X.env) fp) ta g) (ht : ∀ (s : Shared) (H : Hp) (C : Addr) (cl : List (Str × Addr)) (fp : List Addr), PTs (X.blk s H scope (compEnvC scope cl C X.env) fp) fa tt)
    (hi1 : ∀ (s : Shared) (H : Hp) (C : Addr) (cl : List (Str × Addr)) (fp : List Addr), PI (X.blk s H scope (compEnvC scope cl C X.env) fp) tb ib wb)
    (hg1 : ∀ (s : Shared) (H : Hp) (C : Addr) (cl : List (Str × Addr)) (fp : List Addr), PG (X.blk s H scope (compEnvC scope cl C X.env) fp) tb gb) (ht1 : ∀ (s : Shared) (H : Hp) (C : Addr) (cl : List (Str × Addr)) (fp : List Addr), PTs (X.blk s H scope (compEnvC scope cl C X.env) fp) fb tt1)
    (hk : ∀ (s : Shared) (H : Hp) (C : Addr) (cl : List (Str × Addr)) (fp : List Addr), PE (X.blk s H scope (compEnvC scope cl C X.env) fp) kx tk)
    (he : ∀ (s : Shared) (H : Hp) (C : Addr) (cl : List (Str × Addr)) (fp : List Addr), PE (X.blk s H scope (compEnvC scope cl C X.env) fp) vx tv) (hs : ∀ x, foldedSetIterable ia X.env x = pure x := by intro _; rfl) (hs1 : ∀ env x, foldedSetIterable ib env x = pure x := by intro _ _; rfl) :
    PE X (DC2 kx vx ta ia tb ib fa fb scope pos) (tDc2 wi g tt wb gb tt1 tk tv (own.map (·.2)) vb) := by
  refine ⟨fun pins s σ H Q I h => ?_⟩
  rw [arm_eval_DictComp]
  have caps : ∀ y ∈ scope.names, y.2 = .free → ∃ c, X.env.cells.lookup y.1 = some c := fun y hy e => (ok.free y hy e).elim (fun z => I.ok.has _ (.inl z)) fun z => I.ok.has _ (.inr z)
  refine wpAny_comprehension_free (use := none) rfl hs (closure_ok caps) ok.kind (fun y hy e => by rw [ok.uniq y hy, e]) (thn (hi.run pins s σ H _ I h) fun _ s1 hx => thn hx fun _ s2 h2 => ?_)
  obtain ⟨it, fp, tn, J, H2, e, I2, T, st2, f2, q⟩ := h2
  subst e
  refine wpAny_newObj_type (newEnv_comp ?_)
  generalize eL : s2.heap.objs.size = L
  obtain ⟨W, ⟨m0, w0⟩, turn⟩ := q L (I2.hok.fresh (Nat.le_of_eq eL))
  generalize es3 : ({ s2 with heap := s2.heap.push { cls := .type "dict", data := .dict #[] } } : Shared) = s3
  have hp3 : s3.heap = s2.heap.push { cls := .type "dict", data := .dict #[] } := by rw [← es3]
  have I3 : Inv X pins σ (upd H2 L (.dK [])) s3 := by
    rw [← es3]
    exact I2.laid (t' := s2.toks) (fun b o z => Heap.get?_push_of_some _ z) (Nat.le_of_eq eL) (eL ▸ dk_empty s2.heap I2.big)
  have f3 : ∀ b ∈ fp, FpOk X pins (upd H2 L (.dK [])) b ∧ b < s3.heap.objs.size := fun b hb => by
    obtain ⟨ob, eb, _⟩ := T.obj _ _ st2 b hb
    have lt := Heap.lt_size eb
    refine ⟨⟨?_, (f2 b hb).2⟩, by rw [hp3, Heap.size_push]; exact Nat.lt_succ_of_lt lt⟩
    rw [upd_ne (by rw [← eL]; exact Nat.ne_of_lt lt)]
    exact (f2 b hb).1
  have st3 : tn 0 s3.heap := T.keep _ _ _ st2 fun b _ o z => by rw [hp3]; exact Heap.get?_push_of_some _ z
  have I4 := block_start I3 ok hN f3
  have qg := hg s3 (upd H2 L (.dK [])) s3.heap.objs.size (cellsFrom (s3.heap.objs.size + 1) scope.names (cloFrom X.env.cells scope.names [])) fp
  have qt := ht s3 (upd H2 L (.dK [])) s3.heap.objs.size (cellsFrom (s3.heap.objs.size + 1) scope.names (cloFrom X.env.cells scope.names [])) fp
  have qi := hi1 s3 (upd H2 L (.dK [])) s3.heap.objs.size (cellsFrom (s3.heap.objs.size + 1) scope.names (cloFrom X.env.cells scope.names [])) fp
  have qg1 := hg1 s3 (upd H2 L (.dK [])) s3.heap.objs.size (cellsFrom (s3.heap.objs.size + 1) scope.names (cloFrom X.env.cells scope.names [])) fp
  have qt1 := ht1 s3 (upd H2 L (.dK [])) s3.heap.objs.size (cellsFrom (s3.heap.objs.size + 1) scope.names (cloFrom X.env.cells scope.names [])) fp
  have qk := hk s3 (upd H2 L (.dK [])) s3.heap.objs.size (cellsFrom (s3.heap.objs.size + 1) scope.names (cloFrom X.env.cells scope.names [])) fp
  have qv := he s3 (upd H2 L (.dK [])) s3.heap.objs.size (cellsFrom (s3.heap.objs.size + 1) scope.names (cloFrom X.env.cells scope.names [])) fp
  have nf : ∀ b ∈ fp, (upd H2 L (.dK [])) b = none := fun b hb => (f3 b hb).1.1
  show codeAny _ _ (.compStart (DC2 kx vx ta ia tb ib fa fb scope pos) 0 (.ref it) (.ref L) (compEnvC scope (cellsFrom (s3.heap.objs.size + 1) scope.names (cloFrom X.env.cells scope.names [])) s3.heap.objs.size X.env)) (compPost (model X.prog X.w) X.A X.xe none (EP X pins σ Q) (.ref L) s3.heap.objs.size) { s3 with heap := pushCells (s3.heap.push { cls := .type "dict", data := .dict #[] }) scope.names }
  generalize ece : compEnvC scope (cellsFrom (s3.heap.objs.size + 1) scope.names (cloFrom X.env.cells scope.names [])) s3.heap.objs.size X.env = ce at I4 qg qt qi qg1 qt1 qk qv ⊢
  have lce : ce.locals = s3.heap.objs.size := by subst ece; rfl
  generalize eH3 : upd H2 L (.dK []) = H3 at I3 I4 qg qt qi qg1 qt1 qk qv w0 nf f3
  generalize es4 : ({ s3 with heap := pushCells (s3.heap.push { cls := .type "dict", data := .dict #[] }) scope.names } : Shared) = s4 at I4 ⊢
  have st4 : tn 0 s4.heap := T.keep _ _ _ st3 fun b _ o z => by rw [← es4]; exact pushCells_keeps _ _ _ _ (Heap.get?_push_of_some _ z)
  have own4 : ∀ {σ' : St} {H' : Hp} {s' : Shared}, Inv (X.blk s3 H3 scope ce fp) [] σ' H' s' → (∀ b ∈ fp, H' b = none) → ∀ b ∈ fp, FpOk (X.blk s3 H3 scope ce fp) [] H' b := fun {σ' H' s'} K0 hn b hb =>
    ⟨hn b hb, (K0.ok.exf b hb).1, K0.ok.exfs b hb, .inl hb, fun x c z => (K0.ok.exf b hb).2 x c z, fun p hp => absurd (show p ∈ ([] : List (Addr × Obj)) ++ [] from hp) (by simp)⟩
  have loop : codeAny (model X.prog X.w) X.A (.compLoop (DC2 kx vx ta ia tb ib fa fb scope pos) 0 (.ref it) (.ref L) ce) (compPost (model X.prog X.w) X.A X.xe none (EP X pins σ Q) (.ref L) s3.heap.objs.size) s4 := by
    refine dc2_loopA (hs1 ce) (fun n s' => ∃ i H', Inv (X.blk s3 H3 scope ce fp) [] (wipe σ (own.map (·.2))) H' s' ∧ tn i s'.heap ∧ (∀ b ∈ fp, H' b = none) ∧ W i n H') ?_ m0 ⟨0, H3, I4, st4, nf, w0⟩
    rintro n s5 ⟨i, H5, I5, st5, n5, w5⟩
    rcases turn i n H5 w5 with ⟨stp, fine⟩ | ⟨go, Nx, down, step⟩
    · refine thnF (T.done (X.blk s3 H3 scope ce fp) rfl rfl rfl hc i [] s5 _ H5 (fun _ _ => False) I5 (own4 I5 n5) st5 stp) fun r s6 ⟨er, I6⟩ => ?_
      subst er
      have I7 : Inv X pins σ H5 s6 := I3.call' (ch := fp) I6.os I6.base I6.hok I6.bare fun b hb => ⟨(f3 b hb).1.2.2.2.1, (f3 b hb).1.2.1, (f3 b hb).1.2.2.2.2.1, (f3 b hb).1.2.2.2.2.2⟩
      have free : H5 s3.heap.objs.size = none := lce ▸ I6.free
      obtain ⟨m, hn, _⟩ := I6.loc
      have hn : s6.heap.Ns s3.heap.objs.size m := lce ▸ hn
      refine ⟨m, hn, fun h2 sb => ?_⟩
      obtain ⟨g0, g1, g2, g3, g4, g5⟩ := I3.fpOk (Nat.le_refl _) free
      exact ⟨.ref L, H5, I7.turned (t' := s6.toks) (fun b o hb z => (sb.2 b hb).trans z) g0 g1 g3 g4 g5, rfl, fine⟩
    · refine thnF (T.item (X.blk s3 H3 scope ce fp) rfl rfl rfl hc i [] s5 _ H5 (fun _ _ => False) I5 (own4 I5 n5) st5 go) fun r s6 ⟨u, er, h6⟩ => ?_
      subst er
      refine thnF h6 fun _ s7 ⟨x, H7, I7, r7, y7, st7, n7⟩ => ?_
      refine thnF (qg.run _ s7 _ H7 x u _ (I7.pinned (own4 I7 n7) (T.obj _ _ st7)) r7 (step x H7 y7)) fun _ s8 ⟨σ8, H8, I8, hw8, q8⟩ => ?_
      refine thnF (qt.run _ s8 σ8 H8 _ I8 q8) fun b s9 ⟨H9, I9, q9⟩ => ?_
      have turnEnd : ∀ {σ9 : St} {s' : Shared} {H' : Hp}, Inv (X.blk s3 H3 scope ce fp) ([] ++ pinsAt fp s7.heap) σ9 H' s' → (wipe σ (own.map (·.2))).length = σ9.length → (∀ (j : Nat) v, (wipe σ (own.map (·.2)))[j]? = some (some v) → σ9[j]? = some (some v)) → Nx H' →
          ∃ m, m < n ∧ ∃ i H', Inv (X.blk s3 H3 scope ce fp) [] (wipe σ (own.map (·.2))) H' s' ∧ tn i s'.heap ∧ (∀ b ∈ fp, H' b = none) ∧ W i m H' := fun {σ9 s' H'} K0 hl hkn nx => by
        obtain ⟨m', hm, w'⟩ := down H' nx
        have pinned : ∀ b ∈ fp, ∀ o, s7.heap.get? b = some o → s'.heap.get? b = some o ∧ H' b = none := fun b hb o z =>
          let y := K0.pin (b, o) (List.mem_append_right _ (List.mem_append_right _ (mem_pinsAt hb z)))
          ⟨y.1, y.2.1⟩
        refine ⟨m', hm, i + 1, H', (K0.unpinned (pins := [])).weak hl hkn, T.keep _ _ _ st7 fun b hb o z => (pinned b hb o z).1, fun b hb => ?_, w'⟩
        obtain ⟨o, z, _⟩ := T.obj _ _ st7 b hb
        exact (pinned b hb o z).2
      have len8 : (wipe σ (own.map (·.2))).length = σ8.length := by rw [← hw8, wipe_length]
      have kn8 : ∀ (j : Nat) v, (wipe σ (own.map (·.2)))[j]? = some (some v) → σ8[j]? = some (some v) ∧ j ∉ own.map (·.2) := fun j v z => wipe_some (hw8 ▸ z)
      cases b with
      | false =>
        simp only [Bool.false_eq_true, if_false] at q9 ⊢
        exact turnEnd I9 len8 (fun j v z => (kn8 j v z).1) q9
      | true =>
        simp only [if_true] at q9 ⊢
        refine thnF (qi.run _ s9 σ8 H9 _ I9 q9) fun _ s10 hx => thnF hx fun _ s11 h11 => ?_
        obtain ⟨i1, fp1, tn1, J1, H11, e1, I11, T1, st11, f11, W1, ⟨m1, w1⟩, turn1⟩ := h11
        subst e1
        have own11 : ∀ {H' : Hp}, (∀ b ∈ fp1, H' b = none) → ∀ b ∈ fp1, FpOk (X.blk s3 H3 scope ce fp) ([] ++ pinsAt fp s7.heap) H' b := fun hn b hb => ⟨hn b hb, (f11 b hb).2⟩
        have inner : codeAny (model X.prog X.w) X.A (.compLoop (DC2 kx vx ta ia tb ib fa fb scope pos) 1 (.ref i1) (.ref L) ce)
            (fun r s' => match r with
              | .ok _ => ∃ m, m < n ∧ ∃ i H', Inv (X.blk s3 H3 scope ce fp) [] (wipe σ (own.map (·.2))) H' s' ∧ tn i s'.heap ∧ (∀ b ∈ fp, H' b = none) ∧ W i m H'
              | .error _ => False) s11 := by
          refine dc2_loopB (fun k s' => ∃ j H', Inv (X.blk s3 H3 scope ce fp) ([] ++ pinsAt fp s7.heap) (wipe σ8 vb) H' s' ∧ tn1 j s'.heap ∧ (∀ b ∈ fp1, H' b = none) ∧ W1 j k H') ?_ m1 ⟨0, H11, ?_, st11, fun b hb => (f11 b hb).1, w1⟩
          · rintro k s12 ⟨j, H12, I12, st12, n12, w12⟩
            rcases turn1 j k H12 w12 with ⟨stp1, nx1⟩ | ⟨go1, Nx1, down1, step1⟩
            · refine thnF (T1.done (X.blk s3 H3 scope ce fp) rfl rfl rfl hc j _ s12 (wipe σ8 vb) H12 (fun _ _ => False) I12 (own11 n12) st12 stp1) fun r s13 ⟨er, I13⟩ => ?_
              subst er
              exact turnEnd I13 (len8.trans (wipe_length σ8 vb).symm) (fun j v z => by
                obtain ⟨z1, z2⟩ := kn8 j v z
                rw [wipe_out fun y => z2 (hv j y)]
                exact z1) nx1
            · refine thnF (T1.item (X.blk s3 H3 scope ce fp) rfl rfl rfl hc j _ s12 (wipe σ8 vb) H12 (fun _ _ => False) I12 (own11 n12) st12 go1) fun r s13 ⟨u1, er, h13⟩ => ?_
              subst er
              refine thnF h13 fun _ s14 ⟨x1, H14, I14, r14, y14, st14, n14⟩ => ?_
              refine thnF (qg1.run _ s14 (wipe σ8 vb) H14 x1 u1 _ (I14.pinned (own11 n14) (T1.obj _ _ st14)) r14 (step1 x1 H14 y14)) fun _ s15 ⟨σ15, H15, I15, hw15, q15⟩ => ?_
              refine thnF (qt1.run _ s15 σ15 H15 _ I15 q15) fun b1 s16 ⟨H16, I16, q16⟩ => ?_
              have turnEnd1 : ∀ {s' : Shared} {H' : Hp}, Inv (X.blk s3 H3 scope ce fp) (([] ++ pinsAt fp s7.heap) ++ pinsAt fp1 s14.heap) σ15 H' s' → Nx1 H' →
                  ∃ m, m < k ∧ ∃ j H', Inv (X.blk s3 H3 scope ce fp) ([] ++ pinsAt fp s7.heap) (wipe σ8 vb) H' s' ∧ tn1 j s'.heap ∧ (∀ b ∈ fp1, H' b = none) ∧ W1 j m H' := fun {s' H'} K0 nx => by
                obtain ⟨m', hm, w'⟩ := down1 H' nx
                have pinned : ∀ b ∈ fp1, ∀ o, s14.heap.get? b = some o → s'.heap.get? b = some o ∧ H' b = none := fun b hb o z =>
                  let y := K0.pin (b, o) (List.mem_append_right _ (List.mem_append_right _ (mem_pinsAt hb z)))
                  ⟨y.1, y.2.1⟩
                refine ⟨m', hm, j + 1, H', K0.unpinned.weak (by rw [← hw15, wipe_length]) (fun j v z => (wipe_some (hw15 ▸ z)).1), T1.keep _ _ _ st14 fun b hb o z => (pinned b hb o z).1, fun b hb => ?_, w'⟩
                obtain ⟨o, z, _⟩ := T1.obj _ _ st14 b hb
                exact (pinned b hb o z).2
              cases b1 with
              | false =>
                simp only [Bool.false_eq_true, if_false] at q16 ⊢
                exact turnEnd1 I16 q16
              | true =>
                simp only [if_true] at q16 ⊢
                refine thnF (qk.run _ s16 σ15 H16 _ I16 q16) fun _ s17 ⟨yk, H17, I17, r17, q17⟩ => ?_
                refine thnF (qv.run _ s17 σ15 H17 _ I17 q17) fun _ s18 ⟨yv, H18, I18, r18, kvs, kk, ek, hL, hz, nx⟩ => ?_
                subst ek
                exact d_dictSet (X := X.blk s3 H3 scope ce fp) I18 hL hz r17 r18 fun s19 I19 => turnEnd1 I19 nx
          · exact I11.weak (wipe_length σ8 vb) fun j v z => (wipe_some z).1
        exact dc2_startB inner (T1.self X.A 0 _ _ _ st11 inner)
  exact codeAny_compStart_dict loop (T.self X.A 0 _ _ _ st4 loop)
end
end DL
end L2

/-! DL26: dict comprehensions over data; starred items -/
namespace L2
namespace DL
open PySem PySem.Spec PyProof.Rows
variable [HasW]
abbrev Prs := List (D × Vl)
def dcL (g : GD) (t : Ev → M Bool) (ek ev : Ev → M Vl) (S : Src) (ρ : Ev) : Nat → Nat → Prs → Gh → Option (Prs × Gh)
  | 0, _, acc, G => if S.fin G = true then some (acc, G) else none
  | k + 1, i, acc, G => match S.item i G with
    | none => none
    | some x => match g x ρ with
      | none => none
      | some ρ1 => match t ρ1 G with
        | .ok true G1 => (match ek ρ1 G1 with
          | .ok (.dat y) G2 => (match keyOf y with
            | some kk => (match ev ρ1 G2 with
              | .ok z G3 => if acc.length < sizeLine then dcL g t ek ev S ρ k (i + 1) (putD acc kk z) G3 else none
              | _ => none)
            | none => none)
          | _ => none)
        | .ok false G1 => dcL g t ek ev S ρ k (i + 1) acc G1
        | _ => none
def dcL2 (g : GD) (t : Ev → M Bool) (mi : Ev → M Src) (vs : List Nat) (g1 : GD) (t1 : Ev → M Bool) (ek ev : Ev → M Vl) (S : Src) (ρ : Ev) : Nat → Nat → Prs → Gh → Option (Prs × Gh)
  | 0, _, acc, G => if S.fin G = true then some (acc, G) else none
  | k + 1, i, acc, G => match S.item i G with
    | none => none
    | some x => match g x ρ with
      | none => none
      | some ρ1 => match t ρ1 G with
        | .ok true G1 => (match mi ρ1 G1 with
          | .ok S1 G2 => (match dcL g1 t1 ek ev S1 (wipeE ρ1 vs) S1.n 0 acc G2 with
            | some (acc', G3) => dcL2 g t mi vs g1 t1 ek ev S ρ k (i + 1) acc' G3
            | none => none)
          | _ => none)
        | .ok false G1 => dcL2 g t mi vs g1 t1 ek ev S ρ k (i + 1) acc G1
        | _ => none
def dcM (mi : Ev → M Src) (vs : List Nat) (g : GD) (t : Ev → M Bool) (ek ev : Ev → M Vl) : Ev → M Prs := fun ρ => andThen (mi ρ) fun S G => match dcL g t ek ev S (wipeE ρ vs) S.n 0 [] G with
  | some (acc, G') => .ok acc G'
  | none => .no
def dcM2 (mi : Ev → M Src) (vs : List Nat) (g : GD) (t : Ev → M Bool) (mi1 : Ev → M Src) (vs1 : List Nat) (g1 : GD) (t1 : Ev → M Bool) (ek ev : Ev → M Vl) : Ev → M Prs := fun ρ => andThen (mi ρ) fun S G => match dcL2 g t mi1 vs1 g1 t1 ek ev S (wipeE ρ vs) S.n 0 [] G with
  | some (acc, G') => .ok acc G'
  | none => .no
structure BldD (K : PySem.W.Frag) (hd as1 : List Addr) (G1 : Gh) (H1 : Hp) (L : Addr) (ρ : Ev) (σ : St) (as : List Addr) (G : Gh) (H : Hp) (xs : Prs) : Prop where
  ltr : Later hd as1 G1 H1 (L :: hd) as G H
  hid : ∀ a ∈ hd, H a = H1 a
  nh : L ∉ hd
  at_ : At K (L :: hd) as ρ G σ H
  acc : ∃ kvs, H L = some (.dK kvs) ∧ xs.map (·.1) = kvs.map (fun p => keyD p.1) ∧ RelVls K as (Fz (L :: hd) as G H) (xs.map (·.2)) (kvs.map (·.2))
section
variable {K : PySem.W.Frag} {hd as1 : List Addr} {G1 : Gh} {H1 : Hp} {L : Addr} {ρ : Ev} {σ : St} {as as2 : List Addr} {G G2 : Gh} {H H2 : Hp} {xs : Prs}
theorem BldD.start (a : At K hd as1 ρ G1 σ H1) (h : H1 L = none) : BldD K hd as1 G1 H1 L ρ σ as1 G1 (upd H1 L (.dK [])) [] := by
  obtain ⟨w, l, n⟩ := a.wd.hide h (.dK [])
  exact ⟨l, fun b hb => upd_ne fun e => n (e ▸ hb), n, a.later l w, [], upd_same, rfl, .nil⟩
theorem BldD.ext (b : BldD K hd as1 G1 H1 L ρ σ as G H xs) (e : Ext (L :: hd) as G H as2 G2 H2) (w : Wd K (L :: hd) as2 G2 H2) : BldD K hd as1 G1 H1 L ρ σ as2 G2 H2 xs := by
  obtain ⟨ys, h1, h2, h3⟩ := b.acc
  exact ⟨b.ltr.ext e, fun a ha => (e.hid a (List.mem_cons_of_mem _ ha)).trans (b.hid a ha), b.nh, b.at_.ext e w, ys, (e.hid L (by simp)).trans h1, h2, h3.ext e⟩
theorem BldD.put {kk : Key} {y : Vl} {v : V} (b : BldD K hd as1 G1 H1 L ρ σ as G H xs) (r : RelVl K as (Fz (L :: hd) as G H) y v) : ∃ kvs, H L = some (.dK kvs) ∧ kvs.length = xs.length ∧ BldD K hd as1 G1 H1 L ρ σ as G (upd H L (.dK (putK kvs kk v))) (putD xs kk y) := by
  obtain ⟨kvs, h1, h2, h3⟩ := b.acc
  obtain ⟨w2, k2⟩ := b.at_.wd.hidUpd (.dK (putK kvs kk v))
  obtain ⟨p1, p2⟩ := putD_rel (k := kk) h2 h3 r
  have hl : kvs.length = xs.length := by have := congrArg List.length h2; simp only [List.length_map] at this; exact this.symm
  refine ⟨kvs, h1, hl, ⟨b.ltr.pre, fun a o z => k2 a o (b.ltr.keep a o z)⟩, fun a ha => ?_, b.nh, b.at_.later ⟨List.prefix_refl _, k2⟩ w2, _, upd_same, p1, Paired.mapP p2 fun _ _ z => z.mono (List.prefix_refl _) k2⟩
  have hn : a ≠ L := fun e => b.nh (e ▸ ha)
  rw [upd_ne hn]; exact b.hid a ha
theorem BldD.at2 {ρ2 : Ev} {σ2 : St} (b : BldD K hd as1 G1 H1 L ρ σ as G H xs) (a : At K (L :: hd) as ρ2 G σ2 H) : BldD K hd as1 G1 H1 L ρ2 σ2 as G H xs := ⟨b.ltr, b.hid, b.nh, a, b.acc⟩
theorem BldD.dct {ds : List D} (b : BldD K hd as1 G1 H1 L ρ σ as G H xs) (h : allDat (xs.map (·.2)) = some ds) : Ext hd as1 G1 H1 as G H ∧ Wd K hd as G H ∧ RelVl K as (Fz hd as G H) (.dat (.dct ((xs.map (·.1)).zip ds))) (.ref L) := by
  obtain ⟨kvs, h1, h2, h3⟩ := b.acc
  obtain ⟨w, k, f⟩ := b.at_.wd.unhide b.nh
  have rd := allDat_rel h h3
  have hl : (xs.map (·.1)).length = ds.length := by
    have a1 := congrArg List.length h2
    have a2 := rd.length
    simp only [List.length_map] at a1 a2 ⊢
    omega
  exact ⟨⟨b.ltr.pre, fun a o z => k a o (b.ltr.keep a o z), b.hid⟩, w, RelD.dct (.inl (f.trans h1)) (by rw [zip_fst _ _ hl]; exact h2) (by rw [zip_snd _ _ hl]; exact rd.mono k)⟩
theorem BldD.cel (b : BldD K hd as1 G1 H1 L ρ σ as G H xs) : Ext hd as1 G1 H1 (as ++ [L]) (G ++ [.dct xs]) H ∧ Wd K hd (as ++ [L]) (G ++ [.dct xs]) H ∧ RelVl K (as ++ [L]) (Fz hd (as ++ [L]) (G ++ [.dct xs]) H) (.ref G.length) (.ref L) := by
  obtain ⟨kvs, h1, h2, h3⟩ := b.acc
  have k0 : ∀ a u, Fz (L :: hd) as G H a = some u → Fz hd (as ++ [L]) (G ++ [.dct xs]) H a = some u := fun a u z => by
    have hne := (Fz_hide z).2
    have z' := (Fz_hide z).1
    unfold Fz at z' ⊢
    rw [liveB_app b.at_.wd.len]
    split at z'
    · cases z'
    · rename_i c
      simp only [Bool.or_eq_true, not_or] at c
      rw [if_neg (by simp only [Bool.or_eq_true, not_or, Bool.and_eq_true, beq_iff_eq]; exact ⟨c.1, c.2, fun q => hne q.1.symm⟩)]
      exact z'
  obtain ⟨w, k⟩ := b.at_.wd.unhideC (go := .dct xs) b.nh h1 rfl ⟨kvs, h1, h2, Paired.mapP h3 fun _ _ z => z.mono (List.prefix_append _ _) k0⟩
  exact ⟨⟨b.ltr.pre.trans (List.prefix_append _ _), fun a o z => k a o (b.ltr.keep a o z), b.hid⟩, w, L, by rw [← b.at_.wd.len]; simp, rfl⟩
end
theorem dc_loop {K : PySem.W.Frag} {hd as1 : List Addr} {G1 : Gh} {H1 : Hp} {L : Addr} {ρ : Ev} {σ : St} {as0 : List Addr} {G0 : Gh} {H0 : Hp} {xs0 ys : Prs} {Gz : Gh} {g : GD} {js vs : List Nat} {t : Ev → M Bool} {ek ev : Ev → M Vl} {S : Src} {J : It} {Fin : Hp → Prop}
    (hj : ∀ j ∈ js, j ∈ vs) (so : SrcOk K (L :: hd) as0 G0 H0 S J) (b0 : BldD K hd as1 G1 H1 L (wipeE ρ vs) (wipe σ vs) as0 G0 H0 xs0) (hr : dcL g t ek ev S (wipeE ρ vs) S.n 0 xs0 G0 = some (ys, Gz))
    (fin : ∀ as H, Later (L :: hd) as0 G0 H0 (L :: hd) as Gz H → BldD K hd as1 G1 H1 L (wipeE ρ vs) (wipe σ vs) as Gz H ys → Fin H) :
    ∃ W : Nat → Nat → Hp → Prop, (∃ m, W 0 m H0) ∧ ∀ i m H, W i m H →
      (J.stop i H ∧ Fin H) ∨ (J.go i H ∧ ∃ Nx : Hp → Prop, (∀ H', Nx H' → ∃ m', m' < m ∧ W (i + 1) m' H') ∧ ∀ x H', J.yld i H x H' → lowG K js g x (wipe σ vs) H' fun σ2 H2 => wipe σ2 vs = wipe σ vs ∧ lowB K W0 t σ2 H2 fun b H3 =>
        if b = true then lowE K W0 ek σ2 H3 fun y H4 => lowE K W0 ev σ2 H4 fun z H5 => ∃ kvs kk, y = kV kk ∧ H5 L = some (.dK kvs) ∧ kvs.length < sizeLine ∧ Nx (upd H5 L (.dK (putK kvs kk z))) else Nx H3) := by
  refine ⟨fun i m H => m = S.n - i ∧ i ≤ S.n ∧ ∃ as G xs, Later (L :: hd) as0 G0 H0 (L :: hd) as G H ∧ BldD K hd as1 G1 H1 L (wipeE ρ vs) (wipe σ vs) as G H xs ∧ dcL g t ek ev S (wipeE ρ vs) (S.n - i) i xs G = some (ys, Gz), ⟨_, rfl, Nat.zero_le _, as0, G0, xs0, (Ext.refl _ _ _ _).later, b0, hr⟩, ?_⟩
  rintro i m H ⟨rfl, hi, as, G, xs, l, b, hr⟩
  by_cases hlt : i < S.n
  · obtain ⟨k, hk⟩ : ∃ k, S.n - i = k + 1 := ⟨S.n - i - 1, by omega⟩
    rw [hk] at hr
    unfold dcL at hr
    cases ei : S.item i G with
    | none => simp only [ei] at hr; cases hr
    | some x =>
      simp only [ei] at hr
      obtain ⟨go, y⟩ := so.goes i (L :: hd) as G H x l b.at_.wd hlt ei
      refine .inr ⟨go, fun H3 => ∃ as3 G3 xs3, Later (L :: hd) as0 G0 H0 (L :: hd) as3 G3 H3 ∧ BldD K hd as1 G1 H1 L (wipeE ρ vs) (wipe σ vs) as3 G3 H3 xs3 ∧ dcL g t ek ev S (wipeE ρ vs) k (i + 1) xs3 G3 = some (ys, Gz), fun H3 ⟨as3, G3, xs3, l3, b3, q3⟩ => ⟨S.n - (i + 1), by omega, rfl, hlt, as3, G3, xs3, l3, b3, by rw [show S.n - (i + 1) = k by omega]; exact q3⟩, fun v H3 yl => ?_⟩
      obtain ⟨e3, w3, r3⟩ := y v H3 yl
      cases eg : g x (wipeE ρ vs) with
      | none => simp only [eg] at hr; cases hr
      | some ρ1 =>
        simp only [eg] at hr
        have b3 := b.ext e3 w3
        have l3 := l.ext e3
        refine ⟨L :: hd, as, wipeE ρ vs, G, x, b3.at_, r3, ρ1, eg, fun σ4 a4 n4 k4 => ⟨wipe_back hj n4 k4, L :: hd, as, ρ1, G, a4, ?_⟩⟩
        cases et : t ρ1 G with
        | no => simp only [et] at hr; cases hr
        | ex c d G' => simp only [et] at hr; cases hr
        | ok bb G5 =>
          simp only [et] at hr
          intro as5 H5 e5 w5
          have b5 := b3.ext e5 w5
          have l5 := l3.ext e5
          cases bb with
          | false =>
            simp only [Bool.false_eq_true, if_false]
            exact ⟨as5, G5, xs, l5, b5, hr⟩
          | true =>
            simp only [if_true]
            refine ⟨L :: hd, as5, ρ1, G5, a4.ext e5 w5, ?_⟩
            cases ee : ek ρ1 G5 with
            | no => simp only [ee] at hr; cases hr
            | ex c d G' => simp only [ee] at hr; cases hr
            | ok yk G6 =>
              simp only [ee] at hr
              cases yk with
              | ref _ => cases hr
              | pr _ _ => cases hr
              | dat yd =>
                simp only at hr
                cases eo : keyOf yd with
                | none => simp only [eo] at hr; cases hr
                | some kk =>
                  simp only [eo] at hr
                  intro as6 H6 v6 e6 w6 r6
                  have ev6 := keyOf_rel (show RelD K (Fz (L :: hd) as6 G6 H6) yd v6 from r6) eo
                  refine ⟨L :: hd, as6, ρ1, G6, (a4.ext e5 w5).ext e6 w6, ?_⟩
                  cases e7 : ev ρ1 G6 with
                  | no => simp only [e7] at hr; cases hr
                  | ex c d G' => simp only [e7] at hr; cases hr
                  | ok z G7 =>
                    simp only [e7] at hr
                    intro as7 H7 v7 x7 w7 r7
                    have b7 := (b5.ext e6 w6).ext x7 w7
                    have l7 := (l5.ext e6).ext x7
                    by_cases hz : xs.length < sizeLine
                    · rw [if_pos hz] at hr
                      obtain ⟨kvs, h8, n8, b8⟩ := b7.put (kk := kk) r7
                      refine ⟨kvs, kk, ev6, h8, by rw [n8]; exact hz, as7, G7, _, ?_, b8, hr⟩
                      obtain ⟨_, k8⟩ := b7.at_.wd.hidUpd (.dK (putK kvs kk v7))
                      exact ⟨l7.pre, fun a o q => k8 a o (l7.keep a o q)⟩
                    · rw [if_neg hz] at hr; cases hr
  · have hi' : i = S.n := by omega
    subst hi'
    rw [Nat.sub_self] at hr
    unfold dcL at hr
    by_cases hf : S.fin G = true
    · rw [if_pos hf] at hr
      cases hr
      exact .inl ⟨so.stops (L :: hd) as _ H l b.at_.wd hf, fin as H l b⟩
    · rw [if_neg hf] at hr; cases hr
structure EndsD (f : Prs → M Vl) : Prop where
  fin : ∀ {K : PySem.W.Frag} {W : WX} {hd as1 as : List Addr} {G1 G : Gh} {H1 H : Hp} {L : Addr} {ρ : Ev} {σ σ' : St} {xs : Prs} {Q : VK}, BldD K hd as1 G1 H1 L ρ σ as G H xs → Res K hd W σ' as1 G1 H1 (f xs G) Q → Q (.ref L) H
def dctF : Prs → M Vl := fun xs G => match allDat (xs.map (·.2)) with
  | some ds => .ok (.dat (.dct ((xs.map (·.1)).zip ds))) G
  | none => .no
def dctC : Prs → M Vl := fun xs G => .ok (.ref G.length) (G ++ [.dct xs])
theorem dctF_ends : EndsD dctF := ⟨fun {K W hd as1 as G1 G H1 H L ρ σ σ' xs Q} b q => by
  unfold dctF at q
  cases e : allDat (xs.map (·.2)) with
  | none => rw [e] at q; exact q.elim
  | some ds =>
    rw [e] at q
    obtain ⟨e1, w1, r1⟩ := b.dct e
    exact q _ H _ e1 w1 r1⟩
theorem dctC_ends : EndsD dctC := ⟨fun b q => by
  obtain ⟨e1, w1, r1⟩ := b.cel
  exact q _ _ _ e1 w1 r1⟩
def finD (f : Prs → M Vl) (m : Ev → M Prs) : Ev → M Vl := fun ρ => andThen (m ρ) f
section
variable {K : PySem.W.Frag} {W : WX} {hd as : List Addr} {ρ : Ev} {G : Gh} {σ : St} {H : Hp} {Q : VK} {mi mi1 : Ev → M Src} {g g1 : GD} {t t1 : Ev → M Bool} {ek ev : Ev → M Vl} {vs vs1 js ks : List Nat} {f : Prs → M Vl}
theorem dc_read (hf : EndsD f) (hj : ∀ j ∈ js, j ∈ vs) (a : At K hd as ρ G σ H) (q : Res K hd W σ as G H (finD f (dcM mi vs g t ek ev) ρ G) Q) : tDc (lowI K W mi) (lowG K js g) (lowB K W0 t) (lowE K W0 ek) (lowE K W0 ev) vs σ H Q := by
  refine ⟨hd, as, ρ, G, a, ?_⟩
  unfold finD dcM andThen at q
  cases em : mi ρ G with
  | no => rw [em] at q; exact q
  | ex c d G' => rw [em] at q; exact q
  | ok S G1 =>
    rw [em] at q
    simp only at q
    cases er : dcL g t ek ev S (wipeE ρ vs) S.n 0 [] G1 with
    | none => rw [er] at q; exact q.elim
    | some p =>
      obtain ⟨ys, Gz⟩ := p
      rw [er] at q
      intro as1 H1 J e1 w1 so L hL
      have b0 := BldD.start ((a.ext e1 w1).wipe vs) hL
      exact dc_loop hj (so.later b0.ltr) b0 er fun as2 H2 _ b => hf.fin b (q.pull e1)
theorem dc_read2 (hf : EndsD f) (hj : ∀ j ∈ js, j ∈ vs) (hk : ∀ j ∈ ks, j ∈ vs1) (a : At K hd as ρ G σ H) (q : Res K hd W σ as G H (finD f (dcM2 mi vs g t mi1 vs1 g1 t1 ek ev) ρ G) Q) :
    tDc2 (lowI K W mi) (lowG K js g) (lowB K W0 t) (lowI K W0 mi1) (lowG K ks g1) (lowB K W0 t1) (lowE K W0 ek) (lowE K W0 ev) vs vs1 σ H Q := by
  refine ⟨hd, as, ρ, G, a, ?_⟩
  unfold finD dcM2 andThen at q
  cases em : mi ρ G with
  | no => rw [em] at q; exact q
  | ex c d G' => rw [em] at q; exact q
  | ok S G1 =>
    rw [em] at q
    simp only at q
    cases er : dcL2 g t mi1 vs1 g1 t1 ek ev S (wipeE ρ vs) S.n 0 [] G1 with
    | none => rw [er] at q; exact q.elim
    | some p =>
      obtain ⟨ys, Gz⟩ := p
      rw [er] at q
      intro as1 H1 J e1 w1 so L hL
      have b0 := BldD.start ((a.ext e1 w1).wipe vs) hL
      have so0 := so.later b0.ltr
      have q1 := q.pull e1
      generalize hH0 : L2.upd H1 L (.dK []) = H0 at b0 so0 ⊢
      refine ⟨fun i m H => m = S.n - i ∧ i ≤ S.n ∧ ∃ as G xs, Later (L :: hd) as1 G1 H0 (L :: hd) as G H ∧ BldD K hd as1 G1 H1 L (wipeE ρ vs) (wipe σ vs) as G H xs ∧ dcL2 g t mi1 vs1 g1 t1 ek ev S (wipeE ρ vs) (S.n - i) i xs G = some (ys, Gz), ⟨_, rfl, Nat.zero_le _, as1, G1, [], (Ext.refl _ _ _ _).later, b0, er⟩, ?_⟩
      rintro i m H2 ⟨rfl, hi, as2, G2, xs, l, b, hr⟩
      by_cases hlt : i < S.n
      · obtain ⟨k, hk'⟩ : ∃ k, S.n - i = k + 1 := ⟨S.n - i - 1, by omega⟩
        rw [hk'] at hr
        unfold dcL2 at hr
        cases ei : S.item i G2 with
        | none => simp only [ei] at hr; cases hr
        | some x =>
          simp only [ei] at hr
          obtain ⟨go, y⟩ := so0.goes i (L :: hd) as2 G2 H2 x l b.at_.wd hlt ei
          refine .inr ⟨go, fun H3 => ∃ as3 G3 xs3, Later (L :: hd) as1 G1 H0 (L :: hd) as3 G3 H3 ∧ BldD K hd as1 G1 H1 L (wipeE ρ vs) (wipe σ vs) as3 G3 H3 xs3 ∧ dcL2 g t mi1 vs1 g1 t1 ek ev S (wipeE ρ vs) k (i + 1) xs3 G3 = some (ys, Gz), fun H3 ⟨as3, G3, xs3, l3, b3, q3⟩ => ⟨S.n - (i + 1), by omega, rfl, hlt, as3, G3, xs3, l3, b3, by rw [show S.n - (i + 1) = k by omega]; exact q3⟩, fun v H3 yl => ?_⟩
          obtain ⟨e3, w3, r3⟩ := y v H3 yl
          cases eg : g x (wipeE ρ vs) with
          | none => simp only [eg] at hr; cases hr
          | some ρ1 =>
            simp only [eg] at hr
            have b3 := b.ext e3 w3
            have l3 := l.ext e3
            refine ⟨L :: hd, as2, wipeE ρ vs, G2, x, b3.at_, r3, ρ1, eg, fun σ4 a4 n4 k4 => ⟨wipe_back hj n4 k4, L :: hd, as2, ρ1, G2, a4, ?_⟩⟩
            cases et : t ρ1 G2 with
            | no => simp only [et] at hr; cases hr
            | ex c d G' => simp only [et] at hr; cases hr
            | ok bb G5 =>
              simp only [et] at hr
              intro as5 H5 e5 w5
              have b5 := b3.ext e5 w5
              have l5 := l3.ext e5
              cases bb with
              | false =>
                simp only [Bool.false_eq_true, if_false]
                exact ⟨as5, G5, xs, l5, b5, hr⟩
              | true =>
                simp only [if_true]
                refine ⟨L :: hd, as5, ρ1, G5, a4.ext e5 w5, ?_⟩
                cases ee : mi1 ρ1 G5 with
                | no => simp only [ee] at hr; cases hr
                | ex c d G' => simp only [ee] at hr; cases hr
                | ok S1 G6 =>
                  simp only [ee] at hr
                  intro as6 H6 J1 e6 w6 so6
                  have b6 := b5.ext e6 w6
                  have l6 := l5.ext e6
                  cases el : dcL g1 t1 ek ev S1 (wipeE ρ1 vs1) S1.n 0 xs G6 with
                  | none => simp only [el] at hr; cases hr
                  | some p =>
                    obtain ⟨acc', G7⟩ := p
                    simp only [el] at hr
                    have b7 : BldD K hd as1 G1 H1 L (wipeE ρ1 vs1) (wipe σ4 vs1) as6 G6 H6 xs := b6.at2 (((a4.ext e5 w5).ext e6 w6).wipe vs1)
                    exact dc_loop hk so6 b7 el fun as8 H8 l8 b8 => ⟨as8, G7, acc', l6.trans l8, b8.at2 (b6.at_.later l8 b8.at_.wd), hr⟩
      · have hi' : i = S.n := by omega
        subst hi'
        rw [Nat.sub_self] at hr
        unfold dcL2 at hr
        by_cases hf' : S.fin G2 = true
        · rw [if_pos hf'] at hr
          cases hr
          exact .inl ⟨so0.stops (L :: hd) as2 _ H2 l b.at_.wd hf', hf.fin b q1⟩
        · rw [if_neg hf'] at hr; cases hr
end
section
variable {X : Cx} {W : WX} {pos : Pos} {kx vx tg iter tg1 iter1 : Expr} {ifs ifs1 : List Expr} {scope : Scope} {own : List (Str × Nat)} {mi mi1 : Ev → M Src} {g g1 : GD} {t t1 : Ev → M Bool} {mk mv : Ev → M Vl} {js ks vs1 : List Nat} {f : Prs → M Vl}
theorem q_dc (hf : EndsD f) (hj : ∀ j ∈ js, j ∈ own.map (·.2)) (hc : X.calm = true) (hN : X.N.Nodup) (hi : QI X W tg iter mi) (ok : BlkOk X.N X.env.scope scope own)
    (hg : ∀ (s : Shared) (H : Hp) (C : Addr) (cl : List (Str × Addr)) (fp : List Addr), QG (X.blk s H scope (compEnvC scope cl C X.env) fp) tg js g) (ht : ∀ (s : Shared) (H : Hp) (C : Addr) (cl : List (Str × Addr)) (fp : List Addr), QTs (X.blk s H scope (compEnvC scope cl C X.env) fp) W0 ifs t)
    (hk : ∀ (s : Shared) (H : Hp) (C : Addr) (cl : List (Str × Addr)) (fp : List Addr), QE (X.blk s H scope (compEnvC scope cl C X.env) fp) W0 kx mk)
    (he : ∀ (s : Shared) (H : Hp) (C : Addr) (cl : List (Str × Addr)) (fp : List Addr), QE (X.blk s H scope (compEnvC scope cl C X.env) fp) W0 vx mv) (hs : ∀ x, foldedSetIterable iter X.env x = pure x := by intro _; rfl) :
    QE X W (.DictComp kx vx [⟨tg, iter, ifs, 0⟩] scope pos) (finD f (dcM mi (own.map (·.2)) g t mk mv)) :=
  (pe_dc hc hN hi ok hg ht hk he hs).imp fun σ H Q ⟨hd, as, ρ, G, a, q⟩ => dc_read hf hj a q
theorem q_dc2 (hf : EndsD f) (hj : ∀ j ∈ js, j ∈ own.map (·.2)) (hjk : ∀ j ∈ ks, j ∈ vs1) (hc : X.calm = true) (hN : X.N.Nodup) (hi : QI X W tg iter mi) (ok : BlkOk X.N X.env.scope scope own) (hv : ∀ i ∈ vs1, i ∈ own.map (·.2))
    (hg : ∀ (s : Shared) (H : Hp) (C : Addr) (cl : List (Str × Addr)) (fp : List Addr), QG (X.blk s H scope (compEnvC scope cl C X.env) fp) tg js g) (ht : ∀ (s : Shared) (H : Hp) (C : Addr) (cl : List (Str × Addr)) (fp : List Addr), QTs (X.blk s H scope (compEnvC scope cl C X.env) fp) W0 ifs t)
    (hi1 : ∀ (s : Shared) (H : Hp) (C : Addr) (cl : List (Str × Addr)) (fp : List Addr), QI (X.blk s H scope (compEnvC scope cl C X.env) fp) W0 tg1 iter1 mi1)
    (hg1 : ∀ (s : Shared) (H : Hp) (C : Addr) (cl : List (Str × Addr)) (fp : List Addr), QG (X.blk s H scope (compEnvC scope cl C X.env) fp) tg1 ks g1) (ht1 : ∀ (s : Shared) (H : Hp) (C : Addr) (cl : List (Str × Addr)) (fp : List Addr), QTs (X.blk s H scope (compEnvC scope cl C X.env) fp) W0 ifs1 t1)
    (hk : ∀ (s : Shared) (H : Hp) (C : Addr) (cl : List (Str × Addr)) (fp : List Addr), QE (X.blk s H scope (compEnvC scope cl C X.env) fp) W0 kx mk)
    (he : ∀ (s : Shared) (H : Hp) (C : Addr) (cl : List (Str × Addr)) (fp : List Addr), QE (X.blk s H scope (compEnvC scope cl C X.env) fp) W0 vx mv) (hs : ∀ x, foldedSetIterable iter X.env x = pure x := by intro _; rfl) (hs1 : ∀ env x, foldedSetIterable iter1 env x = pure x := by intro _ _; rfl) :
    QE X W (.DictComp kx vx [⟨tg, iter, ifs, 0⟩, ⟨tg1, iter1, ifs1, 0⟩] scope pos) (finD f (dcM2 mi (own.map (·.2)) g t mi1 vs1 g1 t1 mk mv)) :=
  (pe_dc2 hc hN hi ok hv hg ht hi1 hg1 ht1 hk he hs hs1).imp fun σ H Q ⟨hd, as, ρ, G, a, q⟩ => dc_read2 hf hj hjk a q
/-! ### starred -/
def starA (m : Ev → M Vl) (r : Ev → M (List Vl)) : Ev → M (List Vl) := fun ρ => andThen (m ρ) fun x G => match seqDat x G with
  | some (_, l) => andThen (r ρ) (fun xs => ret (l.map .dat ++ xs)) G
  | none => .no
theorem qa_star {e : Expr} {es : List Expr} {p : Pos} {m : Ev → M Vl} {r : Ev → M (List Vl)} (he : QE X W e m) (hr : QA X W es r) (hs : starEach (.Starred e p :: es) X.env = (true, eval e X.env) :: starEach es X.env := by rfl) : QA X W (.Starred e p :: es) (starA m r) :=
  (StX.pa_star he hr hs).imp fun σ H Q ⟨hd, as, ρ, G, a, q⟩ => ⟨hd, as, ρ, G, a, (Res.bindA q).mono fun v H1 ⟨as1, G1, x, e1, w1, r1, q1⟩ => by
    cases ek : seqDat x G1 with
    | none => simp only [ek] at q1; exact q1.elim
    | some pr =>
      obtain ⟨b, l⟩ := pr
      simp only [ek] at q1
      obtain ⟨p, ys, ev, h1, h2⟩ := seqDat_rel w1 r1 ek
      refine ⟨p, ys, ev, ?_, hd, as1, ρ, G1, a.ext e1 w1, (ResA.bindA q1).mono fun vs H2 ⟨as2, G2, xs, e2, w2, r2, q2⟩ => ?_⟩
      · cases b
        · exact .inl (by simpa using h1)
        · exact .inr (by simpa using h1)
      · exact q2 as2 H2 _ (Ext.refl _ _ _ _) w2 (pair_app (rels_map (h2.mono e2.keep)) r2)⟩
end
end DL
end L2

/-! DL27: pairs of data and a cell; freezing a name's value (nothing is run) -/
namespace L2
namespace DL
open PySem PySem.Spec PyProof.Rows
variable [HasW]
section
variable {X : Cx} {W : WX} {pos : Pos} {es : List Expr} {r : Ev → M (List Vl)}
/-- (d, cell) -/
def tupR (m : Ev → M (List Vl)) : Ev → M Vl := fun ρ => andThen (m ρ) fun xs G => match xs with
  | [.dat d, .ref i] => .ok (.pr d i) G
  | _ => .no
theorem q_tupR {x1} (h : QA X W es r) : QE X W (.Tuple es x1 pos) (tupR r) := (pe_tup h).imp fun σ H Q ⟨hd, as, ρ, G, a, q⟩ =>
  ⟨hd, as, ρ, G, a, (ResA.bind q).mono fun vs H1 ⟨as1, G1, xs, e1, w1, r1, q1⟩ => by
    split at q1
    · rename_i d i
      cases r1 with
      | cons ra r2 =>
        cases r2 with
        | cons rb r3 =>
          cases r3
          obtain ⟨b, hb, rfl⟩ := rb
          refine ⟨by show 2 ≤ sizeLine; decide, fun p hp => ?_⟩
          obtain ⟨w2, e2, f2⟩ := w1.new (.tup [_, .ref b]) hp
          exact q1 as1 _ (.ref p) e2 w2 ⟨p, _, b, rfl, SqT.of f2, RelD.mono e2.keep ra, hb⟩
    · exact q1.elim⟩
end
/-! ### freezing -/
/-- the cells that a value reaches -/
def reach (G : Gh) : Nat → Vl → List Nat
  | _, .dat _ => []
  | _, .pr _ _ => []
  | 0, .ref _ => []
  | n + 1, .ref j => j :: match G[j]? with
    | some (.lst l) => (l.map (reach G n)).flatten
    | some (.dct l) => (l.map fun p => reach G n p.2).flatten
    | some (.dcN l) => (l.map fun p => reach G n p.2).flatten
    | some (.ins _ fs) => (fs.map fun p => reach G n p.2).flatten
    | _ => []
def goneAll : Gh → List Nat → Gh
  | G, [] => G
  | G, i :: is => goneAll (G.set i .gone) is
theorem goneAll_get : ∀ {is : List Nat} {G : Gh} {i : Nat} {go : GO}, (goneAll G is)[i]? = some go → go = .gone ∨ G[i]? = some go
  | [], _, _, _, h => .inr h
  | j :: is, G, i, go, h => by
    rcases goneAll_get (is := is) h with e | e
    · exact .inl e
    · by_cases hj : j = i
      · subst hj
        by_cases hl : j < G.length
        · rw [List.getElem?_set_self hl] at e
          exact .inl (Option.some.inj e).symm
        · rw [List.getElem?_eq_none (by rw [List.length_set]; omega)] at e; cases e
      · rw [List.getElem?_set_ne hj] at e; exact .inr e
theorem goneAll_len : ∀ (is : List Nat) (G : Gh), (goneAll G is).length = G.length
  | [], _ => rfl
  | j :: is, G => by unfold goneAll; rw [goneAll_len is]; simp
theorem goneAll_in : ∀ {is : List Nat} {G : Gh} {i : Nat} {go : GO}, i ∈ is → (goneAll G is)[i]? = some go → go = .gone
  | j :: is, G, i, go, hm, h => by
    by_cases hi : i ∈ is
    · exact goneAll_in hi h
    · have hj : i = j := by rcases List.mem_cons.mp hm with e | e; exact e; exact absurd e hi
      subst hj
      rcases goneAll_get (is := is) h with e | e
      · exact e
      · by_cases hl : i < G.length
        · rw [List.getElem?_set_self hl] at e
          exact (Option.some.inj e).symm
        · rw [List.getElem?_eq_none (by rw [List.length_set]; omega)] at e; cases e
section
variable {K : PySem.W.Frag} {hd as : List Addr} {G : Gh} {H : Hp}
theorem goneAll_Fz (is : List Nat) (w : Wd K hd as G H) : ∀ a o, Fz hd as G H a = some o → Fz hd as (goneAll G is) H a = some o := fun a o h => by
  unfold Fz at h ⊢
  split at h
  · cases h
  · rename_i c
    rw [if_neg]
    · exact h
    · intro hc
      simp only [Bool.or_eq_true, not_or] at c hc
      rcases hc with hc | hc
      · exact c.1 hc
      · obtain ⟨i, go, h1, h2, h3⟩ := liveB_iff.mp hc
        rcases goneAll_get h2 with e | e
        · subst e; cases h3
        · exact c.2 (liveB_iff.mpr ⟨i, go, h1, e, h3⟩)
theorem Wd.goneAll (is : List Nat) (w : Wd K hd as G H) : Wd K hd as (goneAll G is) H ∧ Ext hd as G H as (DL.goneAll G is) H := by
  have k := goneAll_Fz is w
  refine ⟨⟨by rw [goneAll_len]; exact w.len, w.nd, fun i go a h1 h2 => ?_, w.here, w.hid⟩, ⟨List.prefix_refl _, k, fun _ _ => rfl⟩⟩
  rcases goneAll_get h1 with e | e
  · subst e; trivial
  · exact RelGO.mono (List.prefix_refl _) k (fun _ z => z) (w.cell i go a e h2)
theorem frz_reach {F : Hp} (w : Wd K hd as G H) (hF : ∀ a o, Fz hd as G H a = some o → F a = some o) : ∀ (n : Nat) {x : Vl} {v : V} {d : D}, RelVl K as (Fz hd as G H) x v → frzV 0 G n x = some d →
    (∀ i ∈ reach G n x, ∀ a o, as[i]? = some a → H a = some o → F a = some o) → RelD K F d v := by
  intro n
  induction n with
  | zero =>
    intro x v d r h _
    cases x with
    | dat e => unfold frzV at h; cases h; exact RelD.mono hF r
    | ref j => unfold frzV at h; cases h
    | pr _ _ => unfold frzV at h; cases h
  | succ n ih =>
    intro x v d r h hc
    cases x with
    | dat e => unfold frzV at h; cases h; exact RelD.mono hF r
    | pr _ _ => unfold frzV at h; cases h
    | ref j =>
      have all : ∀ {l : List Vl} {vs : List V} {ds : List D}, RelVls K as (Fz hd as G H) l vs → mapO (frzV 0 G n) l = some ds → (∀ y ∈ l, ∀ i ∈ reach G n y, ∀ a o, as[i]? = some a → H a = some o → F a = some o) → RelDs K F ds vs := by
        intro l
        induction l with
        | nil => intro vs ds r h _; cases r; cases h; exact .nil
        | cons y l ihl =>
          intro vs ds r h hcc
          obtain ⟨e, es, rfl, h1, h2⟩ := mapO_cons h
          cases r with
          | cons r1 r2 => exact .cons (ih r1 h1 (hcc y (by simp))) (ihl r2 h2 fun z hz => hcc z (List.mem_cons_of_mem _ hz))
      obtain ⟨a, ha, rfl⟩ := r
      unfold frzV at h
      rw [if_neg (Nat.not_lt_zero _)] at h
      have here : ∀ o, H a = some o → F a = some o := fun o ho => hc j (by unfold reach; simp) a o ha ho
      cases eg : G[j]? with
      | none => rw [eg] at h; cases h
      | some go =>
        rw [eg] at h
        have rest : ∀ i, i ∈ (match (some go : Option GO) with
            | some (.lst l) => (l.map (reach G n)).flatten
            | some (.dct l) => (l.map fun (p : D × Vl) => reach G n p.2).flatten
            | some (.dcN l) => (l.map fun (p : D × Vl) => reach G n p.2).flatten
            | some (.ins _ fs) => (fs.map fun (p : Str × Vl) => reach G n p.2).flatten
            | _ => []) → ∀ a o, as[i]? = some a → H a = some o → F a = some o := fun i hi => hc i (by unfold reach; rw [eg]; exact List.mem_cons_of_mem _ hi)
        cases go with
        | lst l =>
          obtain ⟨ds, h1, rfl⟩ := Option.map_eq_some_iff.mp h
          obtain ⟨xs, g1, g2⟩ := w.at eg ha
          exact .lst (.inl (here _ g1)) (all g2 h1 fun y hy i hi => rest i (by simp only [List.mem_flatten, List.mem_map]; exact ⟨_, ⟨y, hy, rfl⟩, hi⟩))
        | dct l =>
          obtain ⟨ds, h1, rfl⟩ := Option.map_eq_some_iff.mp h
          obtain ⟨kvs, g1, g2, g3⟩ := w.at eg ha
          have rd := all g3 h1 fun y hy i hi => by
            obtain ⟨p, hp, rfl⟩ := List.mem_map.mp hy
            exact rest i (by simp only [List.mem_flatten, List.mem_map]; exact ⟨_, ⟨p, hp, rfl⟩, hi⟩)
          have hl : (l.map (·.1)).length = ds.length := by
            have a1 := congrArg List.length g2
            have a2 := rd.length
            simp only [List.length_map] at a1 a2 ⊢
            omega
          exact .dct (.inl (here _ g1)) (by rw [zip_fst _ _ hl]; exact g2) (by rw [zip_snd _ _ hl]; exact rd)
        | dcN l =>
          obtain ⟨ds, h1, rfl⟩ := Option.map_eq_some_iff.mp h
          obtain ⟨kvs, g1, g2, g4, g3⟩ := w.at eg ha
          have rd := all g3 h1 fun y hy i hi => by
            obtain ⟨p, hp, rfl⟩ := List.mem_map.mp hy
            exact rest i (by simp only [List.mem_flatten, List.mem_map]; exact ⟨_, ⟨p, hp, rfl⟩, hi⟩)
          have hl : (l.map (·.1)).length = ds.length := by
            have a1 := congrArg List.length g2
            have a2 := rd.length
            simp only [List.length_map] at a1 a2 ⊢
            omega
          exact .dcN (here _ g1) (by rw [zip_nk _ _ hl]; exact g2) (by rw [zip_fst _ _ hl]; exact g4.mono hF) (by rw [zip_snd _ _ hl]; exact rd)
        | ins c fs =>
          obtain ⟨ds, h1, rfl⟩ := Option.map_eq_some_iff.mp h
          obtain ⟨dx, vs, g1, g2, g3⟩ := w.at eg ha
          have rd := all g3 h1 fun y hy i hi => by
            obtain ⟨p, hp, rfl⟩ := List.mem_map.mp hy
            exact rest i (by simp only [List.mem_flatten, List.mem_map]; exact ⟨_, ⟨p, hp, rfl⟩, hi⟩)
          have hl : (fs.map (·.1)).length = ds.length := by
            have a1 := congrArg List.length g2
            have a2 := rd.length
            simp only [List.length_map] at a1 a2 ⊢
            omega
          exact .obj (here _ g1) (by rw [zip_fst _ _ hl]; exact g2) (by rw [zip_snd _ _ hl]; exact rd)
        | gone => cases h
/-- the name j's value from here on is data -/
def frzName (j : Nat) (ρ : Ev) (G : Gh) : Option (Ev × Gh) := match ρ[j]? with
  | some (some x) => (frzV 0 G 4 x).map fun d => (ρ.set j (some (.dat d)), goneAll G (reach G 4 x))
  | _ => none
theorem At.frzName {ρ ρ' : Ev} {G' : Gh} {σ : St} {j : Nat} (a : At K hd as ρ G σ H) (h : frzName j ρ G = some (ρ', G')) : At K hd as ρ' G' σ H ∧ Ext hd as G H as G' H := by
  unfold DL.frzName at h
  split at h
  · rename_i x ex
    obtain ⟨d, hf, e⟩ := Option.map_eq_some_iff.mp h
    cases e
    obtain ⟨w2, e2⟩ := a.wd.goneAll (reach G 4 x)
    obtain ⟨v, hv, rv⟩ := a.slot j x ex
    have rd : RelD K (Fz hd as (DL.goneAll G (reach G 4 x)) H) d v := frz_reach a.wd e2.keep 4 rv hf fun i hi b o hb ho => by
      unfold Fz
      rw [if_neg]
      · exact ho
      · intro hc
        simp only [Bool.or_eq_true] at hc
        rcases hc with hc | hc
        · exact (a.wd.hid b (by simpa using hc)).2 (List.mem_of_getElem? hb)
        · obtain ⟨m, go, h1, h2, h3⟩ := liveB_iff.mp hc
          have em := nd_inj a.wd.nd h1 hb
          subst em
          rw [goneAll_in hi h2] at h3
          cases h3
    have a2 := a.ext e2 w2
    refine ⟨⟨w2, by simp only [List.length_set]; exact a2.len, fun i y hy => ?_⟩, e2⟩
    by_cases hij : j = i
    · subst hij
      have hl : j < ρ.length := (List.getElem?_eq_some_iff.mp ex).1
      rw [List.getElem?_set_self hl] at hy
      cases hy
      exact ⟨v, hv, rd⟩
    · rw [List.getElem?_set_ne hij] at hy
      exact a2.slot i y hy
  · cases h
end
section
variable {X : Cx} {W : WX}
/-- a statement, the name j frozen ahead of it -/
def frzS (j : Nat) (m : SD) : SD := fun ρ G => match frzName j ρ G with
  | some (ρ', G') => m ρ' G'
  | none => .no
theorem q_frz {st : Stmt} {m : SD} (j : Nat) (h : QS X W st m) : QS X W st (frzS j m) := h.imp fun Z σ H ⟨hd, as, ρ, G, a, q⟩ => by
  unfold frzS at q
  cases e : frzName j ρ G with
  | none => rw [e] at q; exact q.elim
  | some p =>
    obtain ⟨ρ', G'⟩ := p
    rw [e] at q
    obtain ⟨a2, e2⟩ := a.frzName e
    exact ⟨hd, as, ρ', G', a2, q.pull e2⟩
end
end DL
end L2

/-! DL28: walking a dict that never changes: it is locked for the walk -/
namespace L2
namespace DL
open PySem PySem.Spec PyProof.Rows
variable [HasW]
theorem allc {P : Str → Prop} {c : Str} {cs : List Str} (h : P c) (t : ∀ c ∈ cs, P c) : ∀ x ∈ c :: cs, P x := fun x hx => by
  rcases List.mem_cons.mp hx with e | e
  · subst e; exact h
  · exact t x e
theorem alln {P : Str → Prop} : ∀ x ∈ ([] : List Str), P x := fun x hx => by simp at hx
/-- alike but for locks of dicts -/
def Sim (F F' : Hp) : Prop := ∀ a o, F a = some o → F' a = some o ∨ ∃ kvs, (o = .dK kvs ∧ ∃ od, F' a = some (.frz od (.dK kvs))) ∨ (∃ od, o = .frz od (.dK kvs) ∧ F' a = some (.dK kvs))
theorem Sim.rd {F F' : Hp} (s : Sim F F') {a : Addr} {u : HO} (n : ∀ od k, u ≠ .frz od (.dK k)) (h : Rd F a u) : Rd F' a u := by
  rcases h with h | ⟨o, h⟩
  · rcases s a _ h with e | ⟨kvs, ⟨e, od, e2⟩ | ⟨od, e, e2⟩⟩
    · exact .inl e
    · subst e; exact .inr ⟨od, e2⟩
    · exact absurd e (n od kvs)
  · rcases s a _ h with e | ⟨kvs, ⟨e, od, e2⟩ | ⟨od, e, e2⟩⟩
    · exact .inr ⟨o, e⟩
    · cases e
    · cases e; exact .inl e2
theorem Sim.sqT {K : PySem.W.Frag} {F F' : Hp} (s : Sim F F') {a : Addr} {xs : List V} (h : SqT K F a xs) : SqT K F' a xs := by
  rcases h with h | h
  · exact .inl (s.rd (fun _ _ e => nomatch e) h)
  · exact .inr h
theorem Sim.lst {F F' : Hp} (s : Sim F F') {a : Addr} {xs : List V} (h : Rd F a (.lst xs)) : Rd F' a (.lst xs) := s.rd (fun _ _ e => nomatch e) h
theorem Sim.dK {F F' : Hp} (s : Sim F F') {a : Addr} {xs : List (Key × V)} (h : Rd F a (.dK xs)) : Rd F' a (.dK xs) := s.rd (fun _ _ e => nomatch e) h
theorem Sim.ins {F F' : Hp} (s : Sim F F') {a C dx : Addr} {fs : List (Str × V)} (h : F a = some (.ins C dx fs)) : F' a = some (.ins C dx fs) := by
  rcases s _ _ h with e | ⟨_, ⟨e, _⟩ | ⟨_, e, _⟩⟩
  · exact e
  · cases e
  · cases e
theorem Sim.xo {F F' : Hp} (s : Sim F F') {a b : Addr} {cls : Value} {d : Option Addr} (h : F a = some (XO b cls d)) : F' a = some (XO b cls d) := by
  rcases s _ _ h with e | ⟨_, ⟨e, _⟩ | ⟨_, e, _⟩⟩
  · exact e
  · cases (show HO.ext _ = HO.dK _ from e)
  · cases (show HO.ext _ = HO.frz _ _ from e)
theorem Sim.dn {F F' : Hp} (s : Sim F F') {a b : Addr} {xs : List NE} (h : F a = some (DN b xs)) : F' a = some (DN b xs) := by
  rcases s _ _ h with e | ⟨_, ⟨e, _⟩ | ⟨_, e, _⟩⟩
  · exact e
  · cases (show HO.ext _ = HO.dK _ from e)
  · cases (show HO.ext _ = HO.frz _ _ from e)
theorem Sim.xd {F F' : Hp} (s : Sim F F') {a : Addr} {fs : List (Str × V)} (h : F a = some (.xd fs)) : F' a = some (.xd fs) := by
  rcases s _ _ h with e | ⟨_, ⟨e, _⟩ | ⟨_, e, _⟩⟩
  · exact e
  · cases e
  · cases e
mutual
theorem RelD.sim {K : PySem.W.Frag} {F F' : Hp} (s : Sim F F') : ∀ {d : D} {v : V}, RelD K F d v → RelD K F' d v
  | _, _, .non => .non
  | _, _, .bl b => .bl b
  | _, _, .int i => .int i
  | _, _, .str x => .str x
  | _, _, .tup h r => .tup (s.sqT h) (RelDs.sim s r)
  | _, _, .lst h r => .lst (s.lst h) (RelDs.sim s r)
  | _, _, .dct h e r => .dct (s.dK h) e (RelDs.sim s r)
  | _, _, .dcN h e r q => .dcN (s.dn h) e (RelDs.sim s r) (RelDs.sim s q)
  | _, _, .obj h e r => .obj (s.ins h) e (RelDs.sim s r)
  | _, _, .exc h e r => .exc (s.xo h) (s.xd e) (RelD.sim s r)
theorem RelDs.sim {K : PySem.W.Frag} {F F' : Hp} (s : Sim F F') : ∀ {ds : List D} {vs : List V}, RelDs K F ds vs → RelDs K F' ds vs
  | _, _, .nil => .nil
  | _, _, .cons h r => .cons (RelD.sim s h) (RelDs.sim s r)
end
theorem RelVl.sim {K : PySem.W.Frag} {as : List Addr} {F F' : Hp} (s : Sim F F') : ∀ {x : Vl} {v : V}, RelVl K as F x v → RelVl K as F' x v
  | .dat _, _, h => RelD.sim s h
  | .ref _, _, h => h
  | .pr _ _, _, ⟨q, u, a, e, h1, h2, h3⟩ => ⟨q, u, a, e, s.sqT h1, RelD.sim s h2, h3⟩
section
variable {K : PySem.W.Frag} {hd as : List Addr} {G : Gh} {H : Hp} {a : Addr} {o o' : HO}
/-- what is no cell becomes another thing -/
theorem Wd.swap (w : Wd K hd as G H) (h : Fz hd as G H a = some o) (s : Sim (Fz hd as G H) (Fz hd as G (L2.upd H a o'))) : Wd K hd as G (L2.upd H a o') := by
  have na : a ∉ hd ∧ liveB as G a = false := by
    unfold Fz at h
    split at h
    · cases h
    · rename_i c
      simp only [Bool.or_eq_true, not_or] at c
      exact ⟨fun z => c.1 (by simpa using z), by simpa using c.2⟩
  refine ⟨w.len, w.nd, fun i go b h1 h2 => ?_, fun b hb => ?_, fun b hb => ?_⟩
  · by_cases hg : go.on = true
    · have hb : b ≠ a := fun e => by
        subst e
        rw [liveB_iff.mpr ⟨i, go, h2, h1, hg⟩] at na
        exact absurd na.2 (by simp)
      have hb' : ∀ u, H b = some u → L2.upd H a o' b = some u := fun u z => by rw [upd_ne hb]; exact z
      have c := w.cell i go b h1 h2
      cases go with
      | lst l => obtain ⟨xs, c1, c2⟩ := c; exact ⟨xs, hb' _ c1, Paired.mapP c2 fun _ _ z => z.sim s⟩
      | dct l => obtain ⟨xs, c1, c3, c2⟩ := c; exact ⟨xs, hb' _ c1, c3, Paired.mapP c2 fun _ _ z => z.sim s⟩
      | dcN l => obtain ⟨xs, c1, c3, c4, c2⟩ := c; exact ⟨xs, hb' _ c1, c3, RelDs.sim s c4, Paired.mapP c2 fun _ _ z => z.sim s⟩
      | ins c fs => obtain ⟨dx, xs, c1, c3, c2⟩ := c; exact ⟨dx, xs, hb' _ c1, c3, Paired.mapP c2 fun _ _ z => z.sim s⟩
      | gone => cases hg
    · cases go with
      | gone => trivial
      | lst l => exact absurd rfl hg
      | dct l => exact absurd rfl hg
      | dcN l => exact absurd rfl hg
      | ins c fs => exact absurd rfl hg
  · by_cases e : b = a
    · subst e; rw [upd_same]; simp
    · rw [upd_ne e]; exact w.here b hb
  · by_cases e : b = a
    · subst e; exact absurd hb na.1
    · rw [upd_ne e]; exact w.hid b hb
theorem Fz_upd (h : Fz hd as G H a = some o) (b : Addr) : Fz hd as G (upd H a o') b = if b = a then some o' else Fz hd as G H b := by
  by_cases e : b = a
  · subst e
    rw [if_pos rfl]
    unfold Fz at h ⊢
    split at h
    · cases h
    · rename_i c; rw [if_neg c, upd_same]
  · rw [if_neg e]
    unfold Fz
    rw [upd_ne e]
theorem sim_lock {kvs : List (Key × V)} {od : Obj} (h : Fz hd as G H a = some (.dK kvs)) : Sim (Fz hd as G H) (Fz hd as G (upd H a (.frz od (.dK kvs)))) := fun b u hb => by
  rw [Fz_upd h]
  by_cases e : b = a
  · subst e
    rw [h] at hb; cases hb
    rw [if_pos rfl]
    exact .inr ⟨kvs, .inl ⟨rfl, od, rfl⟩⟩
  · rw [if_neg e]; exact .inl hb
theorem sim_unlock {kvs : List (Key × V)} {od : Obj} (h : Fz hd as G H a = some (.frz od (.dK kvs))) : Sim (Fz hd as G H) (Fz hd as G (upd H a (.dK kvs))) := fun b u hb => by
  rw [Fz_upd h]
  by_cases e : b = a
  · subst e
    rw [h] at hb; cases hb
    rw [if_pos rfl]
    exact .inr ⟨kvs, .inr ⟨od, rfl, rfl⟩⟩
  · rw [if_neg e]; exact .inl hb
theorem At.lock {ρ : Ev} {σ : St} {kvs : List (Key × V)} {od : Obj} (a0 : At K hd as ρ G σ H) (h : Fz hd as G H a = some (.dK kvs)) : At K hd as ρ G σ (upd H a (.frz od (.dK kvs))) ∧ Fz hd as G (upd H a (.frz od (.dK kvs))) a = some (.frz od (.dK kvs)) :=
  ⟨⟨a0.wd.swap h (sim_lock h), a0.len, fun i x hx => let ⟨v, h1, h2⟩ := a0.slot i x hx; ⟨v, h1, h2.sim (sim_lock h)⟩⟩, by rw [Fz_upd h, if_pos rfl]⟩
/-- back: from a walk over the locked dict to the world without the lock -/
theorem Ext.unlock {as2 : List Addr} {G2 : Gh} {H2 : Hp} {kvs : List (Key × V)} {od : Obj} (h : Fz hd as G H a = some (.dK kvs)) (e : Ext hd as G (upd H a (.frz od (.dK kvs))) as2 G2 H2) (w : Wd K hd as2 G2 H2) :
    H2 a = some (.frz od (.dK kvs)) ∧ Ext hd as G H as2 G2 (L2.upd H2 a (.dK kvs)) ∧ Wd K hd as2 G2 (L2.upd H2 a (.dK kvs)) ∧ Sim (Fz hd as2 G2 H2) (Fz hd as2 G2 (L2.upd H2 a (.dK kvs))) := by
  have f0 : Fz hd as G (upd H a (.frz od (.dK kvs))) a = some (.frz od (.dK kvs)) := by rw [Fz_upd h, if_pos rfl]
  have f2 := e.keep _ _ f0
  have na : a ∉ hd := fun z => by
    unfold Fz at h
    rw [if_pos (by simp [z])] at h
    cases h
  refine ⟨Fz.of f2, ⟨e.pre, fun b o hb => ?_, fun b hb => ?_⟩, w.swap f2 (sim_unlock f2), sim_unlock f2⟩
  · rw [Fz_upd f2]
    by_cases eb : b = a
    · subst eb
      rw [h] at hb; cases hb
      rw [if_pos rfl]
    · rw [if_neg eb]
      exact e.keep b o (by rw [Fz_upd h, if_neg eb]; exact hb)
  · have hne : b ≠ a := fun z => na (z ▸ hb)
    rw [upd_ne hne, e.hid b hb, upd_ne hne]
end
/-! ### sources -/
def dvar (j : Nat) (ρ : Ev) : Option (List (D × D)) := match ρ[j]? with
  | some (some (.dat (.dct l))) => some l
  | _ => none
/-- the keys, the values, the pairs of the dict under the name j -/
def keyS (j : Nat) : Ev → M Src := fun ρ G => match dvar j ρ with
  | some l => .ok (fixS (l.map (·.1))) G
  | none => .no
def valuS (j : Nat) : Ev → M Src := fun ρ G => match dvar j ρ with
  | some l => .ok (fixS (l.map (·.2))) G
  | none => .no
def itemS (j : Nat) : Ev → M Src := fun ρ G => match dvar j ρ with
  | some l => .ok (fixS (l.map fun p => .tup [p.1, p.2])) G
  | none => .no
section
variable {K : PySem.W.Frag} {hd as : List Addr} {G : Gh} {H : Hp} {a : Addr} {od : Obj} {kvs : List (Key × V)} {l : List (D × D)}
theorem dct_get {F : Hp} (e : l.map (·.1) = kvs.map (fun p => keyD p.1)) (r : RelDs K F (l.map (·.2)) (kvs.map (·.2))) {t : Nat} {p : D × D} (h : l[t]? = some p) : ∃ k v, kvs[t]? = some (k, v) ∧ p.1 = keyD k ∧ RelD K F p.2 v := by
  have h1 : (l.map (·.1))[t]? = some p.1 := by rw [List.getElem?_map, h]; rfl
  have h2 : (l.map (·.2))[t]? = some p.2 := by rw [List.getElem?_map, h]; rfl
  rw [e, List.getElem?_map] at h1
  obtain ⟨q, hq, hk⟩ := Option.map_eq_some_iff.mp h1
  obtain ⟨v, hv, rv⟩ := r.get h2
  rw [List.getElem?_map, hq] at hv
  cases hv
  exact ⟨q.1, q.2, hq, hk.symm, rv⟩
variable (f0 : Fz hd as G H a = some (.frz od (.dK kvs))) (e : l.map (·.1) = kvs.map (fun p => keyD p.1)) (r : RelDs K (Fz hd as G H) (l.map (·.2)) (kvs.map (·.2)))
include f0 e r
theorem src_keys : SrcOk K hd as G H (fixS (l.map (·.1))) (Itk a od kvs) := by
  have n : (l.map (·.1)).length = kvs.length := by rw [e]; simp
  refine ⟨fun t h2 as2 G2 H2 x lt w ht hx => ⟨⟨Fz.of (lt.keep _ _ f0), by have : t < (l.map (·.1)).length := ht; omega⟩, fun v H3 ⟨e3, k, u, hk, ev⟩ => ?_⟩, fun h2 as2 G2 H2 lt w _ => ⟨Fz.of (lt.keep _ _ f0), Nat.le_of_eq n.symm⟩⟩
  subst e3 ev
  obtain ⟨d, hd', rfl⟩ := Option.map_eq_some_iff.mp hx
  rw [e, List.getElem?_map, hk] at hd'
  cases hd'
  exact ⟨Ext.refl _ _ _ _, w, keyD_rel k⟩
theorem src_vals : SrcOk K hd as G H (fixS (l.map (·.2))) (Itd a od kvs) := by
  have n : (l.map (·.2)).length = kvs.length := by have := r.length; simpa using this
  refine ⟨fun t h2 as2 G2 H2 x lt w ht hx => ⟨⟨Fz.of (lt.keep _ _ f0), by have : t < (l.map (·.2)).length := ht; omega⟩, fun v H3 ⟨e3, k, hk⟩ => ?_⟩, fun h2 as2 G2 H2 lt w _ => ⟨Fz.of (lt.keep _ _ f0), Nat.le_of_eq n.symm⟩⟩
  subst e3
  obtain ⟨d, hd', rfl⟩ := Option.map_eq_some_iff.mp hx
  obtain ⟨u, hu, ru⟩ := r.get hd'
  rw [List.getElem?_map, hk] at hu
  cases hu
  exact ⟨Ext.refl _ _ _ _, w, ru.mono lt.keep⟩
theorem src_items : SrcOk K hd as G H (fixS (l.map fun p => .tup [p.1, p.2])) (Iti a od kvs) := by
  have n : l.length = kvs.length := by have := congrArg List.length e; simpa using this
  refine ⟨fun t h2 as2 G2 H2 x lt w ht hx => ⟨⟨Fz.of (lt.keep _ _ f0), by have : t < (l.map fun p : D × D => D.tup [p.1, p.2]).length := ht; simp at this; omega⟩, fun v H3 ⟨T, k, u, hk, ev, hT, e3⟩ => ?_⟩, fun h2 as2 G2 H2 lt w _ => ⟨Fz.of (lt.keep _ _ f0), by show kvs.length ≤ (l.map fun p : D × D => D.tup [p.1, p.2]).length; simp; omega⟩⟩
  subst e3 ev
  obtain ⟨d, hd', rfl⟩ := Option.map_eq_some_iff.mp hx
  rw [List.getElem?_map] at hd'
  obtain ⟨p, hp, rfl⟩ := Option.map_eq_some_iff.mp hd'
  obtain ⟨k', v', h1, h3, h4⟩ := dct_get e r hp
  rw [hk] at h1
  cases h1
  rw [h3]
  exact pairNew w hT (keyD_rel k) (h4.mono lt.keep)
end
end DL
end L2

/-! DL29: comprehensions and loops over dicts -/
namespace L2
namespace DL
open PySem PySem.Spec PyProof.Rows
variable [HasW]
def dS (Sd : List (D × D) → List D) (j : Nat) : Ev → M Src := fun ρ G => match dvar j ρ with
  | some l => .ok (fixS (Sd l)) G
  | none => .no
def keysOf (l : List (D × D)) : List D := l.map (·.1)
def valsOf (l : List (D × D)) : List D := l.map (·.2)
def itemsOf (l : List (D × D)) : List D := l.map fun p => .tup [p.1, p.2]
/-- a walk over the dict under the name j -/
structure DW (X : Cx) (tg iter : Expr) (j : Nat) (Sd : List (D × D) → List D) : Prop where
  ex : ∃ (wi : TI) (It : Addr → Obj → List (Key × V) → It), PI X tg iter wi ∧
    (∀ (σ : St) (H : Hp) (d : Addr) (od : Obj) (kvs : List (Key × V)) (R : L2.It → Hp → Prop), σ[j]? = some (some (.ref d)) → H d = some (.frz od (.dK kvs)) → R (It d od kvs) H → wi σ H R) ∧
    ∀ (K : PySem.W.Frag) (hd as : List Addr) (G : Gh) (H : Hp) (d : Addr) (od : Obj) (kvs : List (Key × V)) (l : List (D × D)), Fz hd as G H d = some (.frz od (.dK kvs)) → l.map (·.1) = kvs.map (fun p => keyD p.1) → RelDs K (Fz hd as G H) (l.map (·.2)) (kvs.map (·.2)) → SrcOk K hd as G H (fixS (Sd l)) (It d od kvs)
section
variable {X : Cx} {tg : Expr} {j : Nat} {x : Str} {p apos cpos : Pos}
theorem dw_keys (hN : X.N[j]? = some x := by rfl) (hv : Vis X.env.scope x := by first | exact Or.inl rfl | exact Or.inr (Or.inl rfl) | exact Or.inr (Or.inr rfl)) (hd : (x == ("__debug__" : Str)) = false := by decide) (hcd : (x == ("__classdict__" : Str)) = false := by decide) : DW X tg (.Name x p) j keysOf :=
  ⟨_, Itk, pi_keys (pe_var hN hv hd hcd), fun σ H d od kvs R hs hH r => ⟨.ref d, hs, d, od, rfl, .inl ⟨kvs, hH, r⟩⟩, fun K hd as G H d od kvs l f0 e r => src_keys f0 e r⟩
theorem dw_vals (hN : X.N[j]? = some x := by rfl) (hv : Vis X.env.scope x := by first | exact Or.inl rfl | exact Or.inr (Or.inl rfl) | exact Or.inr (Or.inr rfl)) (hd : (x == ("__debug__" : Str)) = false := by decide) (hcd : (x == ("__classdict__" : Str)) = false := by decide)
    (hb : attributeBase (.Name x p) "values" X.env (eval (.Name x p) X.env) = eval (.Name x p) X.env := by rfl) (hl : (apos.endLine == cpos.line) = true := by rfl) : DW X tg (.Call (.Attribute (.Name x p) "values" apos) [] [] cpos) j valsOf :=
  ⟨_, Itd, pi_values (pe_var hN hv hd hcd) hb hl, fun σ H d od kvs R hs hH r => ⟨.ref d, hs, d, od, kvs, rfl, hH, r⟩, fun K hd as G H d od kvs l f0 e r => src_vals f0 e r⟩
theorem dw_items {elts : List Expr} {kk : Nat} {tpos : Pos} (hN : X.N[j]? = some x := by rfl) (hv : Vis X.env.scope x := by first | exact Or.inl rfl | exact Or.inr (Or.inl rfl) | exact Or.inr (Or.inr rfl)) (hd : (x == ("__debug__" : Str)) = false := by decide) (hcd : (x == ("__classdict__" : Str)) = false := by decide)
    (hb : attributeBase (.Name x p) "items" X.env (eval (.Name x p) X.env) = eval (.Name x p) X.env := by rfl) (hl : (apos.endLine == cpos.line) = true := by rfl) : DW X (.Tuple elts kk tpos) (.Call (.Attribute (.Name x p) "items" apos) [] [] cpos) j itemsOf :=
  ⟨_, Iti, pi_items (pe_var hN hv hd hcd) hb hl, fun σ H d od kvs R hs hH r => ⟨.ref d, hs, d, od, kvs, rfl, hH, r⟩, fun K hd as G H d od kvs l f0 e r => src_items f0 e r⟩
end
theorem Res.lock {K : PySem.W.Frag} {W : WX} {hd as : List Addr} {G : Gh} {σ : St} {H : Hp} {a : Addr} {kvs : List (Key × V)} {od : Obj} {y : Vl} {G' : Gh} {Q : VK} (h : Fz hd as G H a = some (.dK kvs)) (q : Res K hd W σ as G H (.ok y G') Q) :
    Res K hd W σ as G (upd H a (.frz od (.dK kvs))) (.ok y G') fun v H' => H' a = some (.frz od (.dK kvs)) ∧ Q v (upd H' a (.dK kvs)) := fun as' H' v e w r => by
  obtain ⟨h1, h2, h3, h4⟩ := Ext.unlock h e w
  exact ⟨h1, q as' _ v h2 h3 (r.sim h4)⟩
section
variable {X : Cx} {W : WX} {pos : Pos} {elt tg iter : Expr} {ifs : List Expr} {scope : Scope} {own : List (Str × Nat)} {g : GD} {t : Ev → M Bool} {m : Ev → M Vl} {js : List Nat} {f : List Vl → M Vl} {j : Nat} {Sd : List (D × D) → List D}
/-- f ends in a value -/
def okF (f : List Vl → M Vl) : Prop := ∀ xs G, (∃ y G', f xs G = .ok y G') ∨ f xs G = .no
theorem okF_lst : okF lstF := fun xs G => by
  unfold lstF
  cases allDat xs with
  | none => exact .inr rfl
  | some ds => exact .inl ⟨_, _, rfl⟩
theorem okF_cel : okF celF := fun xs G => .inl ⟨_, _, rfl⟩
theorem q_lcD (hf : Ends1 f) (ho : okF f) (dw : DW X tg iter j Sd) (hj : ∀ j ∈ js, j ∈ own.map (·.2)) (hc : X.calm = true) (hN : X.N.Nodup) (ok : BlkOk X.N X.env.scope scope own)
    (hg : ∀ (s : Shared) (H : Hp) (C : Addr) (cl : List (Str × Addr)) (fp : List Addr), QG (X.blk s H scope (compEnvC scope cl C X.env) fp) tg js g) (ht : ∀ (s : Shared) (H : Hp) (C : Addr) (cl : List (Str × Addr)) (fp : List Addr), QTs (X.blk s H scope (compEnvC scope cl C X.env) fp) W0 ifs t)
    (he : ∀ (s : Shared) (H : Hp) (C : Addr) (cl : List (Str × Addr)) (fp : List Addr), QE (X.blk s H scope (compEnvC scope cl C X.env) fp) W0 elt m) (hs : ∀ x, foldedSetIterable iter X.env x = pure x := by intro _; rfl) :
    QE X W (.ListComp elt [⟨tg, iter, ifs, 0⟩] scope pos) (finE f (lcM (dS Sd j) (own.map (·.2)) g t m)) := by
  obtain ⟨wi, It, pi, hw, hso⟩ := dw.ex
  refine ⟨fun pins s σ H Q I ⟨hd, as, ρ, G, a, q⟩ => ?_⟩
  unfold finE lcM dS andThen at q
  cases ed : dvar j ρ with
  | none => rw [ed] at q; exact q.elim
  | some l =>
    rw [ed] at q
    simp only at q
    cases er : lcL g t m (fixS (Sd l)) (wipeE ρ (own.map (·.2))) (fixS (Sd l)).n 0 [] G with
    | none => rw [er] at q; exact q.elim
    | some pr =>
      obtain ⟨ys, Gz⟩ := pr
      rw [er] at q
      simp only at q
      have ej : ρ[j]? = some (some (.dat (.dct l))) := by
        unfold dvar at ed
        split at ed
        · rename_i z; cases ed; exact z
        · cases ed
      obtain ⟨v, hv, rv⟩ := a.slot j _ ej
      cases rv with
      | @dct _ d kvs h1 h2 h3 =>
        rcases h1 with h1 | ⟨od, h1⟩
        · refine (pe_lock (pe_lc (g := lowG X.K js g) (tt := lowB X.K W0 t) (te := lowE X.K W0 m) hc hN pi ok hg ht he hs)).run pins s σ H Q I ⟨d, .dK kvs, Fz.of h1, trivial, fun od => hw σ _ d od kvs _ hv upd_same fun L hL => ?_⟩
          obtain ⟨a2, f2⟩ := a.lock (od := od) h1
          have so := hso X.K hd as G _ d od kvs l f2 h2 (h3.sim (sim_lock h1))
          have b0 := Bld.start (a2.wipe (own.map (·.2))) hL
          refine lc_loop hj (so.later b0.ltr) b0 er fun as2 H2 _ b => ?_
          rcases ho ys Gz with ⟨y, G', eo⟩ | eo
          · rw [eo] at q
            exact hf.fin b (by rw [eo]; exact Res.lock (od := od) h1 q)
          · rw [eo] at q; exact q.elim
        · refine (pe_lc (g := lowG X.K js g) (tt := lowB X.K W0 t) (te := lowE X.K W0 m) hc hN pi ok hg ht he hs).run pins s σ H Q I (hw σ H d od kvs _ hv (Fz.of h1) fun L hL => ?_)
          have so := hso X.K hd as G _ d od kvs l h1 h2 h3
          have b0 := Bld.start (a.wipe (own.map (·.2))) hL
          exact lc_loop hj (so.later b0.ltr) b0 er fun as2 H2 _ b => hf.fin b q
end
end DL
end L2

/-! DL30: calls that see all cells; a def that leaves all its cells -/
namespace L2
namespace DL
open PySem PySem.Spec PyProof.Rows
variable [HasW]
def callAll (np : Nat) (f : FD) (xs : List Vl) : M Vl := fun G => if xs.length = np then f xs G else .no
theorem callAll_ok {K : PySem.W.Frag} {W : WX} {σ : St} {hd as : List Addr} {G : Gh} {H : Hp} {np : Nat} {f : FD} {xs : List Vl} {vs : List V} {Q : VK} (w : Wd K hd as G H) (r : RelVls K as (Fz hd as G H) xs vs) (h : Res K hd W σ as G H (callAll np f xs G) Q) :
    spD K np f vs H Q (WE W σ) := by
  unfold callAll at h
  by_cases hn : xs.length = np
  · rw [if_pos hn] at h
    refine ⟨by rw [← Paired.length r]; exact hn, hd, as, G, xs, w, r, ?_⟩
    cases e : f xs G with
    | ok y G' => rw [e] at h; exact h
    | ex c d G' => rw [e] at h; exact h
    | no => rw [e] at h; exact h
  · rw [if_neg hn] at h; exact h.elim
def runK (n : Nat) (body : SD) : FD := fun xs G => match body (startE n xs) G with
  | .rt x G' => .ok x G'
  | .nx _ G' => .ok (.dat .non) G'
  | .ex c d _ G' => .ex c d G'
  | _ => .no
section
variable {P : Program} {w : World} {K : PySem.W.Frag} {mg : Str → Option Value} {base : Heap} {x qual : Str} {params : Arguments} {body : List Stmt} {scope : Scope} {dvs : List V} {kws : List (Str × V)} {f : Addr} {fd : FuncData}
theorem okK {N ps : List Str} {k : Nat} {sd : SD} (F : FunD K x qual params body scope dvs kws f fd) (S : FnScope N ps scope)
    (hb : ∀ (cdv : Value) (A : Around) (outer : List Env) (s : Shared) (H : Hp) (E : XK), RoomG k (A.deeper (envOfC qual scope s.heap.objs.size f cdv)) → QSs (cxOf (L2.CX P w) P w K mg base N qual scope f cdv A outer s H E) (fun cls d _ H' => E cls d H') body sd) :
    FnG P w K mg base (L2.CX P w) (k + 1) f fd ps (spD K ps.length (runK N.length sd)) := by
  refine okG F S (fun vs H Q E h => h.1) (fun cdv A outer s H vs Q E hr h => ⟨_, hb cdv A outer s H E hr, ?_⟩)
  obtain ⟨_, hd, as, G, xs, w0, r, q⟩ := h
  refine ⟨hd, as, startE N.length xs, G, startE_at w0 r, ?_⟩
  show ResS K hd (fun cls d _ H' => E cls d H') as G H (sd (startE N.length xs) G) { nx := fun _ H' => Q .non H', rt := Q }
  unfold runK at q
  cases e : sd (startE N.length xs) G with
  | nx ρ' G' => rw [e] at q; exact fun as' H' σ' ee a => q as' H' .non ee a.wd RelD.non
  | rt y G' => rw [e] at q; exact fun as' H' v ee w1 r1 => q as' H' v ee w1 r1
  | bk ρ' G' => rw [e] at q; exact q.elim
  | ct ρ' G' => rw [e] at q; exact q.elim
  | ex c d ρ' G' => rw [e] at q; exact fun as' H' σ' dd ee a t => q as' H' dd ee a.wd t
  | no => rw [e] at q; exact q.elim
theorem OkM.keep {c m q : Str} {st : Stmt} {N ps : List Str} {k : Nat} {sd : SD} (h : HasM K c m q st) (S : FnScope N ps (defScope st))
    (hb : ∀ (kV doc pm : Value) (an : Option Addr) (cdv ct : Value) (us : List Value), us.length = ps.length → bindArgs (PySem.W.fnOf m q (defArgs st) (defBody st) (defScope st) .none kV doc pm an cdv ct) ⟨us, []⟩ = pure (ps.zip us))
    (hd : ∀ (fd : FuncData) (cdv : Value) (A : Around) (outer : List Env) (s : Shared) (H : Hp) (E : XK), RoomG k (A.deeper (envOfC q (defScope st) s.heap.objs.size (He.ma K (He.ga K c) m) cdv)) → QSs (cxOf (L2.CX P w) P w K mg base N q (defScope st) (He.ma K (He.ga K c) m) cdv A outer s H E) (fun cls d _ H' => E cls d H') (defBody st) sd) :
    OkM P w K mg base (k + 1) c m ps.length (runK N.length sd) := by
  obtain ⟨fd, F⟩ := h
  exact ⟨fd, ps, okK F S fun cdv A outer s H E hr => hd fd cdv A outer s H E hr, F.bindsN hb⟩
end
def methA (c m : Str) (np : Nat) (fm : FD) (mo : Ev → M Vl) (r : Ev → M (List Vl)) : Ev → M Vl := fun ρ => andThen (mo ρ) fun x G => match clsOf x G with
  | some (c', fs) => if c' = c ∧ fs.lookup m = none then andThen (r ρ) (fun xs => callAll np fm (x :: xs)) G else .no
  | none => .no
def newAll (c : Str) (np : Nat) (fm : FD) (keep : Bool) (xs : List Vl) : M Vl := fun G => match callAll np fm (.ref G.length :: xs) (G ++ [.ins c []]) with
  | .ok (.dat .non) G2 => if keep = true then .ok (.ref G.length) G2 else leaveF G.length (.ref G.length) G2
  | .ex e d G2 => if keep = true then .ex e d G2 else leaveX G.length e d G2
  | _ => .no
def makeA (c : Str) (np : Nat) (fm : FD) (keep : Bool) (r : Ev → M (List Vl)) : Ev → M Vl := fun ρ => andThen (r ρ) (newAll c np fm keep)
section
variable {X : Cx} {E : XK} {pos apos p : Pos} {e o : Expr} {es : List Expr} {mo : Ev → M Vl} {r : Ev → M (List Vl)} {c m : Str} {j k np : Nat} {fm : FD} {keep : Bool}
theorem q_methA {pl : Sem Bool} (O : OkM X.prog X.w X.K X.mg X.base k c m np fm) (hcl : Cls X.K (He.ga X.K c)) (hm : Meth X.K (He.ga X.K c) m (He.ma X.K (He.ga X.K c) m)) (hr : RoomG j X.A) (hk : k ≤ j) (tk : Takes X (fun c d _ H => E c d H))
    (ho : QE X (fun c d _ H => E c d H) o mo) (ha : QA X (fun c d _ H => E c d H) (e :: es) r)
    (hst : starEach (e :: es) X.env = (false, eval e X.env) :: starEach es X.env := by rfl) (hpl : (backTo pos (starEach es X.env)).any (·.1) = false := by rfl)
    (ht : eval (.Call (.Attribute o m apos) (e :: es) [] pos) X.env = (do
      let ov ← eval o X.env
      standAt apos.atName
      let (f, first) ← holding [ov] (getMethod ov m pl)
      callWith pos f first (backTo pos (starEach (e :: es) X.env)) (backToKw pos (keywordEach [] X.env))) := by rfl) :
    QE X (fun c d _ H => E c d H) (.Call (.Attribute o m apos) (e :: es) [] pos) (methA c m np fm mo r) := by
  obtain ⟨fd, ps, F, B⟩ := O.ex
  refine (pe_methG ho hcl hm F (hr.mono hk) B (pass_tk tk) ha hst hpl ht).imp fun σ H Q ⟨hd, as, ρ, G, a, q⟩ => ⟨hd, as, ρ, G, a, (Res.bind q).mono fun v H1 ⟨as1, G1, x, e1, w1, r1, q1⟩ => ?_⟩
  cases ek : clsOf x G1 with
  | none => simp only [ek] at q1; exact q1.elim
  | some p =>
    obtain ⟨c', fs⟩ := p
    simp only [ek] at q1
    split at q1
    · rename_i hh
      obtain ⟨hcc, hl⟩ := hh
      subst hcc
      obtain ⟨p, dx, vs, ev, h1, h2⟩ := meth_mid w1 r1 ek hl
      refine ⟨p, dx, vs, ev, h1, h2, hd, as1, ρ, G1, a.ext e1 w1, (ResA.bind q1).mono fun us H2 ⟨as2, G2, xs, e2, w2, r2, q2⟩ => ?_⟩
      rw [List.append_nil]
      exact callAll_ok (W := fun c d _ H => E c d H) w2 (.cons (r1.ext e2) r2) q2
    · exact q1.elim
theorem q_methA0 {pl : Sem Bool} (O : OkM X.prog X.w X.K X.mg X.base k c m np fm) (hcl : Cls X.K (He.ga X.K c)) (hm : Meth X.K (He.ga X.K c) m (He.ma X.K (He.ga X.K c) m)) (hr : RoomG j X.A) (hk : k ≤ j) (tk : Takes X (fun c d _ H => E c d H))
    (ho : QE X (fun c d _ H => E c d H) o mo)
    (ht : eval (.Call (.Attribute o m apos) [] [] pos) X.env = (do
      let ov ← eval o X.env
      standAt apos.atName
      let (f, first) ← holding [ov] (getMethod ov m pl)
      callWith pos f first (backTo pos (starEach [] X.env)) (backToKw pos (keywordEach [] X.env))) := by rfl) :
    QE X (fun c d _ H => E c d H) (.Call (.Attribute o m apos) [] [] pos) (methA c m np fm mo nilA) := by
  obtain ⟨fd, ps, F, B⟩ := O.ex
  refine (pe_meth0G ho hcl hm F (hr.mono hk) B (pass_tk tk) ht).imp fun σ H Q ⟨hd, as, ρ, G, a, q⟩ => ⟨hd, as, ρ, G, a, (Res.bind q).mono fun v H1 ⟨as1, G1, x, e1, w1, r1, q1⟩ => ?_⟩
  cases ek : clsOf x G1 with
  | none => simp only [ek] at q1; exact q1.elim
  | some p =>
    obtain ⟨c', fs⟩ := p
    simp only [ek] at q1
    split at q1
    · rename_i hh
      obtain ⟨hcc, hl⟩ := hh
      subst hcc
      obtain ⟨p, dx, vs, ev, h1, h2⟩ := meth_mid w1 r1 ek hl
      exact ⟨p, dx, vs, ev, h1, h2, callAll_ok (W := fun c d _ H => E c d H) (σ := σ) w1 (.cons r1 .nil) q1⟩
    · exact q1.elim
theorem q_makeA (O : OkM X.prog X.w X.K X.mg X.base k c "__init__" np fm) (M : Mk X.K (He.ga X.K c) (He.ma X.K (He.ga X.K c) "__init__")) (hr : RoomG j X.A) (hk : k + 1 ≤ j) (hg : Gl X c) (hmg : X.mg c = some (.ref (He.ga X.K c))) (tk : Takes X (fun c d _ H => E c d H))
    (ha : QA X (fun c d _ H => E c d H) (e :: es) r) (hdb : (c == ("__debug__" : Str)) = false := by decide) (he : starEach (e :: es) X.env = (false, eval e X.env) :: starEach es X.env := by rfl) (hpl : (backTo pos (starEach es X.env)).any (·.1) = false := by rfl) :
    QE X (fun c d _ H => E c d H) (.Call (.Name c p) (e :: es) [] pos) (makeA c np fm keep r) := by
  obtain ⟨fd, ps, F, B⟩ := O.ex
  refine (pe_makeG M F (hr.mono hk) hg hmg B (pass_tk tk) ha hdb he hpl).imp fun σ H Q ⟨hd, as, ρ, G, a, q⟩ => ⟨hd, as, ρ, G, a, (ResA.bind q).mono fun us H1 ⟨as1, G1, xs, e1, w1, r1, q1⟩ => ?_⟩
  intro x dx hx hdx hne
  rw [List.append_nil]
  obtain ⟨w2, e2, _⟩ := w1.new (.own x) hdx
  have hx2 : upd H1 dx (.own x) x = none := by rw [upd_ne (Ne.symm hne)]; exact hx
  obtain ⟨w3, e3⟩ := w2.cellNew (go := .ins c []) (o := .ins (He.ga X.K c) dx []) hx2 (fun F k => ⟨dx, [], upd_same, rfl, .nil⟩) rfl
  have e13 := e2.trans e3
  have rx : RelVl X.K (as1 ++ [x]) (Fz hd (as1 ++ [x]) (G1 ++ [.ins c []]) (upd (upd H1 dx (.own x)) x (.ins (He.ga X.K c) dx []))) (.ref G1.length) (.ref x) := ⟨x, by rw [← w1.len]; simp, rfl⟩
  refine callAll_ok (W := fun c d _ H => E c d H) (σ := σ) w3 (.cons rx (r1.ext e13)) ?_
  unfold newAll at q1
  cases ec : callAll np fm (.ref G1.length :: xs) (G1 ++ [.ins c []]) with
  | no => rw [ec] at q1; exact q1.elim
  | ex cc d G2 =>
    rw [ec] at q1
    intro as4 H4 dd e4 w4 t4
    cases keep with
    | true => exact q1 as4 H4 dd (e13.trans e4) w4 t4
    | false => exact leaveX_ok w1.len (e13.trans e4) w4 t4 q1
  | ok y G2 =>
    rw [ec] at q1
    intro as4 H4 v e4 w4 r4
    cases y with
    | ref _ => exact q1.elim
    | pr _ _ => exact q1.elim
    | dat d =>
      cases d with
      | non =>
        cases r4
        refine ⟨rfl, ?_⟩
        cases keep with
        | true => exact q1 as4 H4 (.ref x) (e13.trans e4) w4 (rx.ext e4)
        | false => exact leaveF_ok w1.len (e13.trans e4) w4 (rx.ext e4) q1
      | _ => exact q1.elim
end
/-- a def that sees all cells -/
def callG (np : Nat) (f : FD) (m : Ev → M (List Vl)) : Ev → M Vl := fun ρ => andThen (m ρ) (callAll np f)
section
variable {X : Cx} {W : WX} {x : Str} {p pos : Pos} {e : Expr} {es : List Expr} {m : Ev → M (List Vl)} {j k np : Nat} {fm : FD}
theorem q_callA (O : OkD X.prog X.w X.K X.mg X.base k x np fm) (hr : RoomG j X.A) (hk : k ≤ j) (hg : Gl X x) (tk : Takes X W)
    (ha : QA X W (e :: es) m) (hdb : (x == ("__debug__" : Str)) = false := by decide) (he : starEach (e :: es) X.env = (false, eval e X.env) :: starEach es X.env := by rfl) (hpl : (backTo pos (starEach es X.env)).any (·.1) = false := by rfl) :
    QE X W (.Call (.Name x p) (e :: es) [] pos) (callG np fm m) := by
  obtain ⟨fd, ps, F, B⟩ := O.ex
  exact (pe_callG F (hr.mono hk) hg O.gl O.kp B (fun σ => passAt tk σ) ha hdb he hpl).imp fun σ H Q ⟨hd, as, ρ, G, a, q⟩ =>
    ⟨hd, as, ρ, G, a, (ResA.bind q).mono fun vs H1 ⟨as1, G1, xs, e1, w1, r1, q1⟩ => callAll_ok w1 r1 q1⟩
end
/-! ### self.f += v -/
def augS (cs : List Str) (f : Str) (op : O2) (mo mv : Ev → M Vl) : SD := fun ρ G => .no
end DL
end L2

/-! DL31: the end of a law: from the meaning of its def to the walk -/
namespace L2
namespace DL
open PySem PySem.Spec PyProof.Rows
variable [HasW]
/-- no object of the head is a list -/
theorem noListB_ok {K : PySem.W.Frag} (h : noListB K = true) {a : Addr} {o : Obj} (e : K.lookup a = some o) : o.cls ≠ .type "list" := fun z => by
  have hm : (a, o) ∈ K := by
    clear h z
    revert e
    induction K with
    | nil => intro e; cases e
    | cons p K ih =>
      intro e
      obtain ⟨b, o'⟩ := p
      by_cases q : a = b
      · subst q
        rw [List.lookup_cons_self] at e
        cases e
        exact List.mem_cons_self ..
      · rw [List.lookup_cons, beq_false_of_ne q] at e
        exact List.mem_cons_of_mem _ (ih e)
  have z2 := List.all_eq_true.mp h _ hm
  simp [z] at z2
/-- the script as a heap of its own -/
def scrH (a : Addr) (vs : List Value) (ns : List Int) : Hp := fun b => if b = a then some (.frz { cls := .type "list", data := .seq vs.toArray } (.lst (ns.map V.int))) else none
theorem scr_rel {K : PySem.W.Frag} {F : Hp} : ∀ ns : List Int, RelDs K F (ns.map D.int) (ns.map V.int)
  | [] => .nil
  | n :: ns => .cons (.int n) (scr_rel ns)
theorem scr_wd {K : PySem.W.Frag} {a : Addr} {vs : List Value} {ns : List Int} : Wd K [] [] [] (scrH a vs ns) :=
  ⟨rfl, .nil, fun i go b h => by simp at h, fun b h => by simp at h, fun b h => by simp at h⟩
theorem law_end {P : Program} {w : World} {K : PySem.W.Frag} {mg mb : Str → Option Value} {k : Nat} {fa a : Addr} {x : Str} {f : FD} {s₁ : Shared} {vs : List Value} {ns : List Int}
    (inK : K.In s₁.heap) (gNs : s₁.heap.Ns mainGlobals mg) (bNs : s₁.heap.Ns builtinsNs mb) (bBoot : ∀ y : Str, y ≠ "__name__" → mb y = bootBuiltins y) (nl : s₁.heap.NoLimit) (noGens : s₁.gens = #[]) (nK : noListB K = true)
    (at_a : s₁.heap.get? a = some { cls := .type "list", data := .seq vs.toArray }) (hints : IntsAre vs ns) (short : ns.length ≤ sizeLine) (rm : Room k callerA)
    (O : ∀ base : Heap, K.In base → base.Ns mainGlobals mg → OkD P w K mg base k x 1 f) (ef : mg x = some (.ref fa))
    (hf : f [.dat (.lst (ns.map D.int))] [] = .ok (.dat (.bl true)) []) :
    codeAny (model P w) callerA (.call (.ref fa) ⟨[.ref a], []⟩) (fun r s' => r = .ok (.ret (.bool true)) ∧ OldK s₁.heap s'.heap ∧ s'.os = s₁.os ∧ AllBare s'.gens) s₁ := by
  obtain ⟨H, eH⟩ : ∃ H : Hp, H = scrH a vs ns := ⟨_, rfl⟩
  have Ha : H a = some (.frz { cls := .type "list", data := .seq vs.toArray } (.lst (ns.map V.int))) := by rw [eH]; exact if_pos rfl
  have Hn : ∀ {b : Addr}, b ≠ a → H b = none := fun {b} n => by rw [eH]; exact if_neg n
  have aK : K.lookup a = none := by
    cases q : K.lookup a with
    | none => rfl
    | some o =>
      have z := inK a o q
      rw [at_a] at z
      cases z
      exact (noListB_ok nK q rfl).elim
  have kept : ∀ {b : Addr} {o : Obj}, s₁.heap.get? b = some o → b ≠ a → (hidT s₁.heap H).get? b = some o := fun e n => hidT_get e (Hn n)
  have nsK : ∀ {b : Addr} {m : Str → Option Value}, s₁.heap.Ns b m → (hidT s₁.heap H).Ns b m := fun {b m} ⟨o, es, ep, e, d, r⟩ => ⟨o, es, ep, kept e (fun z => by
    subst z
    rw [at_a] at e
    cases e
    cases d), d, r⟩
  have inB : K.In (hidT s₁.heap H) := fun b o e => kept (inK b o e) fun z => by rw [z, aK] at e; cases e
  have hok : HOk P w H s₁.heap := fun b u z => by
    by_cases e : b = a
    · subst e
      rw [Ha] at z
      cases z
      exact ⟨at_a, by rw [List.length_map]; exact short, vs, _, vals_ints hints, at_a⟩
    · rw [Hn e] at z; cases z
  have env : Env0 P w K mg (hidT s₁.heap H) callerA [] s₁ H :=
    { frames := rfl
      mod := ⟨inB, nsK gNs, ⟨mb, nsK bNs, bBoot⟩, let ⟨mc, h1, h2⟩ := nl; ⟨mc, nsK h1, h2⟩⟩
      bs := fun b o e => of_hidT e
      bsz := Nat.le_of_eq (hidT_size _ _)
      funs := trivial
      frf := fun b hb => by cases hb
      hok := hok
      bare := .of_eq noGens }
  obtain ⟨⟨fd, ps, F, B⟩, _, eg⟩ := O _ inB (nsK gNs)
  have ea : fa = He.ga K x := by rw [ef] at eg; cases eg; rfl
  subst ea
  have hsp : spD K 1 f [V.ref a] H (fun v _ => v = .bl true) (fun _ _ _ => False) := ⟨rfl, [], [], [], [.dat (.lst (ns.map D.int))], by rw [eH]; exact scr_wd, .cons (RelD.lst (xs := ns.map V.int) (.inr ⟨_, by show Fz [] [] [] H a = _; exact Ha⟩) (scr_rel ns)) .nil, by
    rw [hf]
    intro as' H' v _ _ r
    cases (show RelD K _ (.bl true) v from r) <;> rfl⟩
  have bi := B s₁ [.ref a] inK (by rw [List.append_nil]; exact F.len _ _ _ _ hsp)
  rw [List.append_nil] at bi
  refine codeAny_mono (F.run callerA [] s₁ H ⟨[.ref a], []⟩ [.ref a] [V.ref a] _ _ (roomG_caller rm) env bi (.cons rfl .nil) hsp) fun r s' h => ?_
  cases r with
  | error e =>
    obtain ⟨_, _, _, _, _, _, _, _, _, _, _, _, _, _, _, _, n⟩ := h
  | ok fl =>
    cases fl with
    | next => exact False.elim h
    | brk => exact False.elim h
    | cont => exact False.elim h
    | ret u =>
      obtain ⟨v, H', os, bare, un, hok', r', q⟩ := h
      have q' : v = .bl true := q
      subst q'
      obtain rfl : u = Value.bool true := r'
      refine ⟨rfl, OldK.of_keep fun b o e => ?_, os, bare⟩
      by_cases z : b = a
      · subst z
        obtain ⟨e1, _⟩ := hok b _ Ha
        obtain ⟨e2, _⟩ := hok' b _ (un.frzs b _ _ Ha)
        rw [e] at e1
        cases e1
        exact e2
      · exact un.keep b o e (Hn z) (fun y => by cases y) (by simp)
omit [HasW] in
theorem walkD {l : PySem.W.OpenLaw} {n k : Nat} {q : Program} {loose : List Str} {XP : (Str → Option Value) → Heap → Prop} {YP : World → Heap → Prop} {d : DefRec} {K : Params → PySem.W.Frag} {f : FD}
    (hn : l.most = some n) (hn2 : n ≤ sizeLine) (hdf : d.params.defaults = []) (hr : Room k callerA)
    (hY : ∀ (w : World) (h : Heap), YP w h → (K w.params).In h) (hK : ∀ w : World, noListB (K w.params) = true)
    (O : ∀ (w : World) (mg : Str → Option Value) (h : Heap), (K w.params).In h → h.Ns mainGlobals mg → YP w h → ∀ base : Heap, (K w.params).In base → base.Ns mainGlobals mg → @OkD ⟨w⟩ l.prog w (K w.params) mg base k d.name 1 f)
    (hf : ∀ ns : List Int, ns.length ≤ n → (∀ z ∈ ns, Builtin.Int.intBits z ≤ 1048576) → f [.dat (.lst (ns.map D.int))] [] = .ok (.dat (.bl true)) []) :
    PySem.W.WalkO q loose XP YP l.row.toRowW d [] (fun f vs => PySem.call f vs) :=
  Att.attach_callB hn hdf fun w s₀ s₁ mg mb fa o pm cd doc a vs ns G Y ho hd hcd hmg hobj hints hlen hbits hg =>
    @law_end ⟨w⟩ _ _ _ _ _ _ _ _ _ _ _ _ _ (hY w _ Y) G.T.g G.T.b G.T.builtins G.T.nolimit hg (hK w) hobj hints (Nat.le_trans hlen hn2) hr (O w mg _ (hY w _ Y) G.T.g Y) hmg (hf ns hlen hbits)
end DL
end L2

/-! DL32: the own errors: super().__init__() and one field -/
namespace L2
namespace DL
open PySem PySem.Spec PyProof.Rows
variable [HasW]
/-- the promise of such an __init__ -/
def spX (C : Addr) (fld : Str) : Sp := fun vs H Q _ => ∃ (a : Addr) (v : V), vs = [.ref a, v] ∧ H a = some (exo a C none) ∧ ∀ dx, H dx = none → dx ≠ a → Q .non (upd (upd H dx (exd dx [(fld, v)])) a (exo a C (some dx)))
/-- what the head tells of the class and its __init__ -/
structure SupI (P : Program) (K : PySem.W.Frag) (C f : Addr) (x qual : Str) (params : Arguments) (body : List Stmt) (scope : Scope) (fd : FuncData) (fld : Str) : Prop where
  ex : ∃ (oc : Value) (od : Option Addr) (dV kV doc pm : Value) (an : Option Addr) (cda : Addr) (ct : Value) (cc : Addr) (osl : Array (Option Value)) (ccl : Value) (cdd : Option Addr) (vs : Array Value) (ccs : Array (Option Value)) (file : Str) (tf : Tok) (cl : Value) (cld : Option Addr) (csl : Array (Option Value)),
    fd = PySem.W.ksFn x qual params body scope dV kV doc pm an (.ref cda) ct cc ∧ K.lookup f = some ⟨oc, od, .func fd, osl⟩ ∧ PySem.W.codeIn K (.ref cda) qual = true ∧ K.lookup cda = some ⟨ccl, cdd, .fields vs, ccs⟩ ∧ vs[2]? = some (.str file tf) ∧
    ((P.main.file : Str) == file) = true ∧ K.lookup cc = some ⟨cl, cld, .cell (some (.ref C)), csl⟩
  oex : OexC K C
  sup : PySem.W.ks_superIn K C C "__init__" = some (some (.builtin "ValueError.__init__"))
  ve : PySem.W.subIn K (.ref C) (.type "ValueError") = some true
  mro : PySem.W.mroIn K C (.ref C) = some true
  ns : PySem.W.nsIn K mainGlobals "super" = some none
  third : PySem.W.nsIn K cStatics "thirdparty.any" = some none
  fno : PySem.W.findIn K (.ref C) fld = some none
  top : (P.main.scope.names.lookup ("super" : Str)).isSome = false
  boot : bootBuiltins "super" = some (.type "super")
  init : PySem.W.findIn K (.ref C) "__init__" = some (some (.ref f))
  ty : PySem.W.typeIn K (.ref f) = some (.type "function")
/-- the bound ValueError.__init__, called with nothing -/
theorem call_mwV {prog : Program} {w : World} {A : Around} {E : Value → Shared → Prop} {h : Heap} {g : Array GenState} {d : Drawn} {t : Nat} {os : OsState} {nm q : Str} {C N : Addr} {bs bm : List Value} {hdct : Bool} {sn : List Str} {sub : List Value} {ab : Bool} {col : Option Bool} {dd : Option Addr} {k0 k1 k2 k3 k5 : Option Value}
    {u e t0 : Addr} {Q : Value → Shared → Prop} (atC : h.get? C = some (excClassObj nm q C N bs bm hdct sn sub ab col dd k0 k1 k2 k3 k5 "ValueError.__new__")) (ate : h.get? e = some (PySem.HandSPX.excO C t0)) (atu : h.get? u = some (PySem.W.kxs_mw "ValueError.__init__" e))
    (hq : ∀ h' t1, (∀ b o, b ≠ e → h.get? b = some o → h'.get? b = some o) → h'.get? e = some (PySem.HandSPX.excO C t1) → Q .none ⟨h', g, d, t, os⟩) : wpAny (model prog w) A (call (.ref u) []) Q E ⟨h, g, d, t, os⟩ := by
  refine wpAny_call (codeAny_of_tree ?_)
  show wpAny _ A.in1 (callAny (.ref u) ⟨[], []⟩) _ _ _
  simp only [callAny]
  refine wpAny_bind (wpAny_load atu ?_)
  refine PySem.W.KFB.if_so (by first | decide | rfl) ?_
  refine wpAny_bind (PySem.ESX.check_bound F.excBase_ValueError atC ate rfl ?_)
  refine wpAny_bind (wpAny_pure (wpAny_pure ?_))
  refine ⟨Code.quiet_builtin _ (by decide +kernel), codeAny_builtin F.excBase_ValueError.initEntry ?_⟩
  rw [Around.under_plainId F.excBase_ValueError.init.plain _]
  wp_walk
  refine hq _ h.objs.size (fun b o nb ob => ?_) ?_
  · exact (Heap.get?_update_other _ _ (Ne.symm nb)).trans (Heap.get?_push_of_some _ ob)
  · rw [Heap.get?_update_self _ (Heap.get?_push_of_some _ ate) rfl]
    rfl
section
variable {P : Program} {w : World} {K : PySem.W.Frag} {mg : Str → Option Value} {base : Heap} {C f : Addr} {x qual fld par : Str} {params : Arguments} {scope : Scope} {fd : FuncData} {p0 p1 p2 p3 p4 p5 p6 p7 p8 : Pos} {k : Nat} {ar : Arg}
theorem supInit (T : SupI P K C f x qual params [.Expr (.Call (.Attribute (.Call (.Name "super" p0) [] [] p1) "__init__" p2) [] [] p3) p4, .Assign [.Attribute (.Name "self" p5) fld p6] (.Name par p7) p8] scope fd fld)
    (hp : (params.posonlyargs ++ params.args).head? = some ar) (ha : ar.arg = "self") (hks : scope.names.lookup ("super" : Str) = some .globalImplicit) (hkc : scope.names.lookup ("__class__" : Str) = some .free)
    (hself : scope.names.lookup ("self" : Str) = some .local) (hpar : scope.names.lookup par = some .local) (hne : ("self" : Str) ≠ par) (hd1 : (par == ("__debug__" : Str)) = false) (hk : scope.kind = .function) (hco : scope.isCoroutine = false) (hgen : scope.isGenerator = false) (hcell : ∀ y ∈ scope.names, y.2 ≠ .cell)
    (he : ∀ L cda cc : Addr, ∃ pl : Sem Bool, eval (.Call (.Attribute (.Call (.Name "super" p0) [] [] p1) "__init__" p2) [] [] p3) (PySem.W.ksEnv qual scope L f (.ref cda) cc) = (do
      let ov ← attributeBase (.Call (.Name "super" p0) [] [] p1) "__init__" (PySem.W.ksEnv qual scope L f (.ref cda) cc) (eval (.Call (.Name "super" p0) [] [] p1) (PySem.W.ksEnv qual scope L f (.ref cda) cc))
      standAt p2.atName
      let (g, first) ← holding [ov] (getMethod ov "__init__" pl)
      callWith p3 g first (backTo p3 (starEach [] (PySem.W.ksEnv qual scope L f (.ref cda) cc))) [])) :
    FnG P w K mg base (L2.CX P w) (k + 1) f fd ["self", par] (spX C fld) := by
  cases scope
  dsimp only at hk hco hgen hks hkc hself hpar hcell
  subst hk hco hgen
  obtain ⟨oc, od, dV, kV, doc, pm, an, cda, ct, cc, osl, ccl, cdd, vsc, ccs, file, tf, cl, cld, csl, rfl, lk, hcd, lkc, hvs, hfile, lcc⟩ := T.ex
  refine ⟨fun vs H Q E ⟨a, v, e, _⟩ => by rw [e]; rfl, fun A outer s H args us vs Q E rm en bi rv hsp => ?_⟩
  obtain ⟨a, v, rfl, ea, q⟩ := hsp
  cases rv with
  | @cons _ u0 _ ur ra rv2 =>
  cases rv2 with
  | @cons _ u _ ur2 ru rv3 =>
  cases rv3
  obtain rfl : u0 = Value.ref a := ra
  have old : ∀ b o, base.get? b = some o → s.heap.get? b = some o := fun b o e => (en.bs b o e).1
  have inK : K.In s.heap := en.mod.kin.keeps old
  obtain ⟨t1, hoe⟩ := exo_at en.hok ea
  have hzip : (["self", par] : List Str).zip [Value.ref a, u] = ([(("self" : Str), .ref a), (par, u)] : List (Str × Value)) := rfl
  rw [hzip] at bi
  obtain ⟨nm, q0, N, bs, bm, sn, sub, ab, col, dd, k0, k1, k2, k3, k5, hC, hbm⟩ := T.oex.cls
  have hcl : PySem.W.clsIn K C = some { name := nm, bases := bs, mro := .ref C :: bm, ns := N, qualname := q0, hasDict := true, slotNames := sn, subclasses := sub, abstract := ab, collection := col, hasDel := false } := by unfold PySem.W.clsIn; rw [hC] <;> rfl
  refine PySem.ks_codeAny_call_defAt (body := [.Expr (.Call (.Attribute (.Call (.Name "super" p0) [] [] p1) "__init__" p2) [] [] p3) p4, .Assign [.Attribute (.Name "self" p5) fld p6] (.Name par p7) p8]) rm.r.depth (inK _ _ lk) rfl (en.mod.nolimit.keeps old) (PySem.W.codeRec_of inK hcd) rfl bi hcell (fun y hy => ?_) (fun h1 ns1 kp1 => ?_) rfl rfl rfl
  · rcases List.mem_cons.mp hy with e | hy
    · rw [e]; exact hself
    · rcases List.mem_cons.mp hy with e | hy
      · rw [e]; exact hpar
      · cases hy
  have hm1 : (fun y => ([("self", Value.ref a), (par, u)] : List (Str × Value)).reverse.lookup y) "self" = some (.ref a) := by
    show (([(par, u), ("self", Value.ref a)] : List (Str × Value))).lookup ("self" : Str) = _
    rw [List.lookup_cons, beq_false_of_ne hne, List.lookup_cons_self]
  have hm2 : (fun y => ([("self", Value.ref a), (par, u)] : List (Str × Value)).reverse.lookup y) par = some u := by
    show (([(par, u), ("self", Value.ref a)] : List (Str × Value))).lookup par = _
    rw [List.lookup_cons_self]
  generalize hL : s.heap.objs.size = L at ns1 ⊢
  have inK1 : K.In h1 := inK.keeps kp1
  have ho1 := kp1 _ _ hoe
  have I1 : PySem.W.InstAt h1 a ({ cls := .ref C, dict := none, data := .fields #[.ref t1, .none, .none, .none, .bool false, .none] } : Obj) C none := ⟨ho1, rfl, rfl, trivial⟩
  have aC : a ≠ C := PySem.W.ks_ne inK1 I1 hcl
  have atC : h1.get? C = some (excClassObj nm q0 C N bs bm true sn sub ab col dd k0 k1 k2 k3 k5 "ValueError.__new__") := inK1 _ _ hC
  obtain ⟨pl, epl⟩ := he L cda cc
  refine PySem.ks_wpAt_execs_cons (PySem.ks_wpAt_Expr_any (PySem.ks_wpAt_MethodCall (pl := pl) ?_ epl))
  refine PySem.ks_wpAt_super_base (env := PySem.W.ksEnv qual _ L f (.ref cda) cc) (ar := ar) hks hkc (by decide) rfl (inK1 _ _ lk) rfl hp rfl (inK1 _ _ lkc) rfl hvs hfile T.top ?_
  obtain ⟨mb, nsb, hbb⟩ := en.mod.blt
  refine PySem.W.ks_loadName_global rfl hks (PySem.Calls.loadGlobal_builtin (env := PySem.W.ksEnv qual _ L f (.ref cda) cc) ((en.mod.glob.keeps old).keeps kp1) (PySem.W.mg_none_of en.mod.kin en.mod.glob T.ns) ((nsb.keeps old).keeps kp1) ((hbb _ (by decide +kernel)).trans T.boot) ⟨rfl, ?_⟩)
  refine wpAny_loadName_free rfl hkc rfl ⟨_, inK1 _ _ lcc, rfl⟩ ?_
  rw [ha]
  refine wpAny_loadName_local rfl hself ns1 hm1 ?_
  refine PySem.ks_wpAny_isType_cls atC rfl ⟨rfl, ?_⟩
  refine PySem.ks_wpAny_call_super atC rfl ho1 rfl (fun c e => by cases e) (PySem.W.looks_mroIn inK1 T.mro) (fun h2 e2 kp2 => ?_)
  have inK2 : K.In h2 := inK1.keeps kp2
  have ho2 := kp2 _ _ ho1
  have I2 : PySem.W.InstAt h2 a ({ cls := .ref C, dict := none, data := .fields #[.ref t1, .none, .none, .none, .bool false, .none] } : Obj) C none := ⟨ho2, rfl, rfl, trivial⟩
  have hsp' : PySem.W.alongIn K "__init__" (((Value.ref C :: bm).dropWhile (· != .ref C)).drop 1) = some (some (.builtin "ValueError.__init__")) := by
    have z := T.sup
    unfold PySem.W.ks_superIn at z
    rw [hcl] at z
    exact z
  refine PySem.W.kxs_getMethod PySem.W.kxs_ValueError e2 (PySem.W.looks_opaque inK2 T.third) (l₀ := .ref C :: bm) (fun A Q E s k q => wpAny_bind ((PySem.W.looks_clsIn inK2 hcl) A _ E s k (wpAny_pure q))) rfl inK2 hsp' (I2.type.andThen (PySem.W.looks_subIn inK2 T.ve)) aC (by decide) ?_
  refine PySem.W.kxs_callWith (i := "ValueError.__init__") (x := a) rfl (evalArgs_empty ⟨Heap.get?_push_at rfl rfl, ?_⟩)
  have kp3 : ∀ b o, h2.get? b = some o → (h2.push (PySem.W.kxs_mw "ValueError.__init__" a)).get? b = some o := fun b o e => Heap.get?_push_of_some _ e
  refine call_mwV (kp3 _ _ (kp2 _ _ atC)) (kp3 _ _ ho2) (Heap.get?_push_at rfl rfl) fun h4 t4 kp4 ho4 => ?_
  have up4 : ∀ b o, b ≠ a → h1.get? b = some o → h4.get? b = some o := fun b o n e => kp4 b o n (kp3 b o (kp2 b o e))
  have inK4 : K.In h4 := fun b o e => up4 b o (fun z => by
    subst z
    have y := inK1 _ _ e
    rw [ho1] at y
    cases y
    exact absurd e (by
      intro e
      have z1 := en.mod.kin _ _ e
      have z2 := (en.bs _ _ z1).2
      rw [ea] at z2
      cases z2)) (inK1 _ _ e)
  have nsL : h4.Ns L (fun y => ([("self", Value.ref a), (par, u)] : List (Str × Value)).reverse.lookup y) := by
    obtain ⟨o, es, ep, e, d, r⟩ := ns1
    refine ⟨o, es, ep, up4 _ _ (fun z => ?_) e, d, r⟩
    rw [z, ho1] at e
    cases e
    cases d
  refine PySem.ks_wpAt_execs_cons (wpAt_of_wpAny (plainObj_wpAny_Assign_Attribute ?_))
  refine wpAny_Name (wpAny_loadName_local rfl hpar nsL hm2 ?_) hd1
  refine wpAny_Name (wpAny_loadName_local rfl hself nsL hm1 ?_) (by decide)
  refine PySem.W.set_plain inK4 (ox := PySem.HandSPX.excO C t4) (od := none) ⟨ho4, rfl, rfl, trivial⟩ T.oex.sa ?_
  refine PySem.HandSPX.exc_osa inK4 ho4 hcl (show PySem.HandSPX.refsVE (.ref C :: bm) = true from hbm) rfl T.fno (fun h5 tk5 dx kp5 dn dne hx hn => ?_)
  refine wpAt_of_wpAny (wpAny_execs_nil ?_)
  have keepB : ∀ b o, b ≠ a → s.heap.get? b = some o → h5.get? b = some o := fun b o n e => kp5 b o n (up4 b o n (kp1 b o e))
  have lt4 : ∀ {b : Addr} {o : Obj}, s.heap.get? b = some o → b ≠ dx := fun {b o} e => by
    by_cases z : b = a
    · rw [z]; exact Ne.symm dne
    · exact Nat.ne_of_lt (Nat.lt_of_lt_of_le (Heap.lt_size (up4 b o z (kp1 b o e))) dn)
  have hnd : H dx = none := by
    cases z : H dx with
    | none => rfl
    | some o =>
      obtain ⟨u', hu'⟩ := objOk_get (en.hok dx o z)
      exact absurd rfl (lt4 hu')
  have na : ∀ {b : Addr}, H b = none → b ≠ a := fun {b} n z => by
    rw [z, ea] at n
    cases n
  refine ⟨.non, upd (upd H dx (exd dx [(fld, v)])) a (exo a C (some dx)), rfl, en.bare, ?_, fun b o z => ?_, rfl, q dx hnd dne⟩
  · exact {
      keep := fun b o z n _ _ => keepB b o (na n) z
      slot := fun b o z n _ _ => ⟨o.slots, keepB b o (na n) z⟩
      free := fun b o z n _ => by rw [upd_ne (na n), upd_ne (lt4 z)]; exact n
      there := fun b o z _ => by
        by_cases y : b = a
        · exact ⟨_, by rw [y]; exact hx⟩
        · exact ⟨o, keepB b o y z⟩
      tups := fun b xs z => by rw [upd_ne (at_ne ea z exo_tup), upd_ne (ne_of_none z hnd)]; exact z
      frzs := fun b o y z => by rw [upd_ne (at_ne ea z exo_frz), upd_ne (ne_of_none z hnd)]; exact z
      tbls := fun b ps z => ⟨#[], by rw [upd_ne (at_ne ea z exo_tbl), upd_ne (ne_of_none z hnd), z]; simp⟩ }
  · by_cases y : b = a
    · subst y
      rw [upd_same] at z
      cases z
      exact exo_ok hx
    · rw [upd_ne y] at z
      by_cases yd : b = dx
      · subst yd
        rw [upd_same] at z
        cases z
        exact exd_ok hn (relO_put (fs := []) ru fun g => True.intro)
      · rw [upd_ne yd] at z
        exact (en.hok b o z).stay (fun c v' hc z' => keepB c v' (by
            rcases hc with hc | hc
            · rw [hc]
              exact y
            · exact at_ne ea hc exo_own) z')
          (fun c hc => by rw [upd_ne (at_ne ea hc exo_own), upd_ne (ne_of_none hc hnd)]; exact hc) (fun c xs hc => by rw [upd_ne (at_ne ea hc exo_tup), upd_ne (ne_of_none hc hnd)]; exact hc)
end
end DL
end L2

/-! DL33: raise C(e) -/
namespace L2
namespace DL
open PySem PySem.Spec PyProof.Rows
variable [HasW]
theorem cxF {P : Program} {w : World} {o : List Env} {H : Hp} {s s' : Shared} {u : Value} (h : L2.CX P w o H s (fun _ _ _ => False) u s') : False := by
  obtain ⟨_, _, _, _, _, _, _, _, _, _, _, _, n⟩ := h
  exact n
section
variable {X : Cx} {C f : Addr} {x par fld : Str} {fd : FuncData} {k : Nat} {e : Expr} {ta : TA} {p pos : Pos}
/-- C(e): an own error is made -/
theorem pmk_x (T : OexC X.K C) (iC : PySem.W.findIn X.K (.ref C) "__init__" = some (some (.ref f))) (tI : PySem.W.typeIn X.K (.ref f) = some (.type "function")) (O : FnG X.prog X.w X.K X.mg X.base (L2.CX X.prog X.w) k f fd ["self", par] (spX C fld)) (hr : RoomG (k + 1) X.A) (hb : Binds X.K fd ["self", par] []) (hg : Gl X x) (hm : X.mg x = some (.ref C)) (ha : PA X [e] ta)
    (hdb : (x == ("__debug__" : Str)) = false := by decide) (he : starEach [e] X.env = (false, eval e X.env) :: starEach [] X.env := by rfl) :
    PMk X (.Call (.Name x p) [e] [] pos) (fun σ H Q => ta σ H fun vs H1 => ∃ v, vs = [v] ∧ ∀ d, H1 d = none → Q (.ref C) (some d) (upd H1 d (.xd [(fld, v)]))) := by
  intro pins s σ H Q I h
  obtain ⟨nm, q, N, bs, bm, sn, sub, ab, col, dd, k0, k1, k2, k3, k5, atC, vm⟩ := T.cls
  refine wpAny_Call_Name_kw (ld_glob I hg hm (PySem.W.callWith_K (h₀ := X.base) I.ok.mod.kin T.kC (thn (ha.run pos pins s σ H _ I h) fun us s1 ⟨vs, H1, I1, r1, v, ev, q1⟩ => ⟨I1.kIn, ?_⟩) he rfl) hdb)
  subst ev
  cases r1 with
  | @cons _ u _ ur ru rn =>
  cases rn
  show wpAny _ _ (call (.ref C) [u]) _ _ _
  obtain ⟨hp, g, dr, tk, os⟩ := s1
  obtain ⟨a, ea⟩ : ∃ a, a = hp.objs.size + 1 := ⟨_, rfl⟩
  have fresh : hp.objs.size ≤ a := by rw [ea]; exact Nat.le_succ _
  have none1 : H1 a = none := I1.hok.fresh fresh
  obtain ⟨h2, e2⟩ : ∃ h2, h2 = (hp.push (PySem.W.kdv_tup [u])).push (PySem.HandSPX.excO C hp.objs.size) := ⟨_, rfl⟩
  have keep2 : ∀ b o, hp.get? b = some o → h2.get? b = some o := fun b o z => by rw [e2]; exact Heap.get?_push_of_some _ (Heap.get?_push_of_some _ z)
  have at2 : h2.get? a = some (PySem.HandSPX.excO C hp.objs.size) := by rw [e2, ea]; heap_get
  have I2 : Inv X pins σ (upd H1 a (exo a C none)) ⟨h2, g, dr, tk, os⟩ := I1.laid (t' := tk) (a := a) (o := exo a C none) (h' := h2) keep2 fresh (exo_ok at2)
  have rel : Vals [V.ref a, v] [Value.ref a, u] := .cons rfl (.cons ru .nil)
  have bi := hb ⟨h2, g, dr, tk, os⟩ [Value.ref a, u] I2.kIn rfl
  have hsp : spX C fld [V.ref a, v] (upd H1 a (exo a C none)) (fun r H2 => r = .non ∧ ∃ d, H2 a = some (exo a C (some d)) ∧ H2 d = some (exd d [(fld, v)]) ∧ H1 d = none ∧ upd (del H2 a) d (.xd [(fld, v)]) = upd H1 d (.xd [(fld, v)])) (fun _ _ _ => False) :=
    ⟨a, v, rfl, upd_same, fun dx hdx ne => by
      have hdx1 : H1 dx = none := by rw [upd_ne ne] at hdx; exact hdx
      refine ⟨rfl, dx, upd_same, by rw [upd_ne ne, upd_same], hdx1, ?_⟩
      funext b
      by_cases z : b = dx
      · rw [z, upd_same, upd_same]
      · rw [upd_ne z, upd_ne z]
        by_cases y : b = a
        · rw [y, del_same, none1]
        · rw [del_ne y, upd_ne y, upd_ne z, upd_ne y]⟩
  refine wpAny_call (PySem.HandSPX.call_own F.excBase_ValueError (fun Y => PySem.HandSPX.refsVE_contains Y bm vm) (I1.kIn _ _ atC) (PySem.W.looks_findIn I1.kIn iC) (fun self => PySem.W.bind_fn I1.kIn self tI) (by rw [sizeLine_eq]; exact (by decide : 1 ≤ 16777216)) ?_)
  rw [← e2, ← ea]
  refine codeAny_mono (O.run _ X.stack _ _ ⟨[Value.ref a, u], []⟩ [Value.ref a, u] _ _ _ (hr.make C [u] []) (I2.env0.make C [u] []) bi rel hsp) fun r s' z => ?_
  cases r with
  | error er => exact (cxF z).elim
  | ok fl =>
    cases fl with
    | ret y =>
      obtain ⟨y0, H2, os2, bare2, un2, hok2, rv, ev, d, ea2, ed, hd1, hfin⟩ := z
      subst ev
      obtain ⟨h3, g3, d3, t3, os3⟩ := s'
      exact ⟨rv, mk_end (raises_own T.exC T.tyC) I1 fresh keep2 un2 hok2 os2 bare2 ea2 ed hd1 (by rw [hfin]; exact q1 d hd1)⟩
    | next => exact False.elim z
    | brk => exact False.elim z
    | cont => exact False.elim z
end
/-! ### its meaning -/
def raiseS (c : Str) (m : Ev → M (List Vl)) : SD := fun ρ G => match m ρ G with
  | .ok [.dat d] G' => .ex c d ρ G'
  | .ok _ _ => .no
  | .ex c' d G' => .ex c' d ρ G'
  | .no => .no
/-- a fresh dict of an error: nothing of the world is touched -/
theorem wd_xd {K : PySem.W.Frag} {hd as : List Addr} {G : Gh} {H : Hp} {d : Addr} {u : HO} (w : Wd K hd as G H) (n : H d = none) : Ext hd as G H as G (upd H d u) ∧ Wd K hd as G (upd H d u) := by
  have nas : ∀ a ∈ as, a ≠ d := fun a ha z => w.here a ha (by rw [z]; exact n)
  have nhd : ∀ a ∈ hd, a ≠ d := fun a ha z => (w.hid a ha).1 (by rw [z]; exact n)
  have kp : ∀ a o, Fz hd as G H a = some o → Fz hd as G (upd H d u) a = some o := fun a o z => by
    have z2 := Fz.of z
    have ne : a ≠ d := fun y => by rw [y, n] at z2; cases z2
    unfold Fz at z ⊢
    split at z
    · cases z
    · rename_i hn
      rw [if_neg hn, upd_ne ne]
      exact z
  refine ⟨⟨List.prefix_refl _, kp, fun a ha => upd_ne (nhd a ha)⟩, ⟨w.len, w.nd, fun i go a h1 h2 => ?_, fun a ha => by rw [upd_ne (nas a ha)]; exact w.here a ha, fun a ha => ⟨by rw [upd_ne (nhd a ha)]; exact (w.hid a ha).1, (w.hid a ha).2⟩⟩⟩
  have c := w.cell i go a h1 h2
  have ne := nas a (List.mem_of_getElem? h2)
  cases go with
  | lst l => obtain ⟨xs, e, r⟩ := c; exact ⟨xs, by rw [upd_ne ne]; exact e, Paired.mapP r fun _ _ z => z.mono (List.prefix_refl _) kp⟩
  | dct l => obtain ⟨kvs, e, e2, r⟩ := c; exact ⟨kvs, by rw [upd_ne ne]; exact e, e2, Paired.mapP r fun _ _ z => z.mono (List.prefix_refl _) kp⟩
  | dcN l => obtain ⟨xs, e, e2, e3, r⟩ := c; exact ⟨xs, by rw [upd_ne ne]; exact e, e2, e3.mono kp, Paired.mapP r fun _ _ z => z.mono (List.prefix_refl _) kp⟩
  | ins c fs => obtain ⟨dx, vs, e, e2, r⟩ := c; exact ⟨dx, vs, by rw [upd_ne ne]; exact e, e2, Paired.mapP r fun _ _ z => z.mono (List.prefix_refl _) kp⟩
  | gone => trivial
theorem fz_new {K : PySem.W.Frag} {hd as : List Addr} {G : Gh} {H : Hp} {d : Addr} {u : HO} (w : Wd K hd as G H) (n : H d = none) : Fz hd as G (upd H d u) d = some u := by
  unfold Fz
  rw [if_neg ?_, upd_same]
  rw [Bool.or_eq_true]
  rintro (z | z)
  · exact (w.hid d (List.contains_iff_mem.mp z)).1 n
  · obtain ⟨i, go, h1, _, _⟩ := liveB_iff.mp z
    exact w.here d (List.mem_of_getElem? h1) n
section
variable {X : Cx} {W : WX} {f : Addr} {x par : Str} {fd : FuncData} {k j : Nat} {e : Expr} {m : Ev → M (List Vl)} {p pos pos2 : Pos}
/-- raise x(e) -/
theorem q_raise (hc : X.calm = true) (tk : Takes X W) (T : OexC X.K (He.ga X.K x)) (iC : PySem.W.findIn X.K (.ref (He.ga X.K x)) "__init__" = some (some (.ref f))) (tI : PySem.W.typeIn X.K (.ref f) = some (.type "function"))
    (O : FnG X.prog X.w X.K X.mg X.base (L2.CX X.prog X.w) k f fd ["self", par] (spX (He.ga X.K x) (fieldOf x))) (hr : RoomG j X.A) (hkj : k + 1 ≤ j) (hb : Binds X.K fd ["self", par] []) (hg : Gl X x) (hm : X.mg x = some (.ref (He.ga X.K x))) (ha : QA X W [e] m)
    (hdb : (x == ("__debug__" : Str)) = false := by decide) (he : starEach [e] X.env = (false, eval e X.env) :: starEach [] X.env := by rfl) : QS X W (.Raise (some (.Call (.Name x p) [e] [] pos)) none pos2) (raiseS x m) := by
  refine (ps_raise hc tk (pmk_x T iC tI O (hr.mono hkj) hb hg hm ha hdb he)).imp fun Z σ H ⟨hd, as, ρ, G, a, q⟩ => ⟨hd, as, ρ, G, a, ?_⟩
  unfold raiseS at q
  cases em : m ρ G with
  | no => rw [em] at q; exact q.elim
  | ex c d G' => rw [em] at q; exact fun as' H' dd e1 w1 t1 => q as' H' σ dd e1 (a.ext e1 w1) t1
  | ok xs G' =>
    rw [em] at q
    match xs, q with
    | [], q => exact q.elim
    | .ref _ :: _, q => exact q.elim
    | .pr _ _ :: _, q => exact q.elim
    | .dat _ :: _ :: _, q => exact q.elim
    | [.dat d], q =>
      intro as' H' vs e1 w1 r1
      cases r1 with
      | @cons _ v _ vr rd rn =>
      cases rn
      refine ⟨v, rfl, fun dd nd => ?_⟩
      obtain ⟨e2, w2⟩ := wd_xd (u := .xd [(fieldOf x, v)]) w1 nd
      exact q as' _ σ dd (e1.trans e2) (a.ext (e1.trans e2) w2) ⟨v, fz_new w1 nd, RelD.mono e2.keep rd⟩
end
end DL
end L2

/-! DL34: a caught error that is kept behind its suite -/
namespace L2
namespace DL
open PySem PySem.Spec PyProof.Rows
variable [HasW]
theorem xo_ok {P : Program} {w : World} {H : Hp} {h : Heap} {a : Addr} {cls : Value} {d : Option Addr} {oe : Obj} {vs : Array Value} (e : h.get? a = some oe) (z : oe.cls = cls) (zd : oe.dict = d) (hd : oe.data = .fields vs) : ObjOk P w H h a (XO a cls d) :=
  ⟨⟨oe, vs, e, z, zd, hd⟩, ⟨_, e⟩, fun h1 h2 ⟨o, us, e1, e2, e3, e4⟩ k => ⟨o, us, k _ e1, e2, e3, e4⟩⟩
theorem xo_at {P : Program} {w : World} {H : Hp} {h : Heap} {a : Addr} {cls : Value} {d : Option Addr} (hok : HOk P w H h) (e : H a = some (XO a cls d)) : ∃ (oe : Obj) (vs : Array Value), h.get? a = some oe ∧ oe.cls = cls ∧ oe.dict = d ∧ oe.data = .fields vs := by
  have x : ObjOk P w H h a (.ext fun h => ∃ (oe : Obj) (vs : Array Value), h.get? a = some oe ∧ oe.cls = cls ∧ oe.dict = d ∧ oe.data = .fields vs) := hok a _ e
  exact x.1
/-- an object that stands is tracked from here on -/
theorem inv_track {X : Cx} {pins : List (Addr × Obj)} {σ : St} {H : Hp} {s : Shared} {a : Addr} {o : HO} {oe : Obj} {vs : Array Value} (I : Inv X pins σ H s) (n : H a = none) (ha : s.heap.get? a = some oe) (hd : oe.data = .fields vs) (n0 : X.s_0.heap.get? a = none) (nL : a ≠ X.env.locals)
    (npin : ∀ p ∈ X.pn ++ pins, p.1 ≠ a) (new : ObjOk X.prog X.w (upd H a o) s.heap a o) : Inv X pins σ (upd H a o) s := by
  have other : ∀ {b : Addr} {u : HO}, H b = some u → b ≠ a := fun {b u} z y => by rw [y, n] at z; cases z
  refine ⟨I.ok, I.os, I.bare, ⟨I.base.keep, I.base.slot, fun b ob z hn hx => ?_, I.base.there, fun b xs z => ?_, fun b ob u z => ?_, fun b ps z => ?_⟩, I.loc, I.cell, ?_, fun y c z => ?_, fun p hp => ?_, fun b u z => ?_, I.len⟩
  · rw [upd_ne (fun y => by rw [y, n0] at z; cases z)]
    exact I.base.free b ob z hn hx
  · have y := I.base.tups b xs z
    rw [upd_ne (other y)]
    exact y
  · have y := I.base.frzs b ob u z
    rw [upd_ne (other y)]
    exact y
  · obtain ⟨more, y⟩ := I.base.tbls b ps z
    exact ⟨more, by rw [upd_ne (other y)]; exact y⟩
  · rw [upd_ne (Ne.symm nL)]
    exact I.free
  · rw [upd_ne (fun e => ?_)]
    · exact I.freeC y c z
    · obtain ⟨v, oc, hc, hv⟩ := I.cell y c z
      rw [e, ha] at hc
      cases hc
      rw [hd] at hv
      cases hv
  · obtain ⟨h1, h2, h3, h4, h5⟩ := I.pin p hp
    exact ⟨h1, by rw [upd_ne (npin p hp)]; exact h2, h3, h4, h5⟩
  · by_cases y : b = a
    · subst y
      rw [upd_same] at z
      cases z
      exact new
    · rw [upd_ne y] at z
      exact (I.hok b u z).stay (fun c v hc zc => zc) (fun c hc => by rw [upd_ne (other hc)]; exact hc) (fun c xs hc => by rw [upd_ne (other hc)]; exact hc)
/-- what the try asks of an error: it is not taken, or its suite runs, and it is kept -/
def wKeep (K : PySem.W.Frag) (c : Value) (i : Nat) (ts : Addr → Value → Option Addr → TS) (Wout : WX) (D : Ends) : WX := fun cls d σ H =>
  ∃ b, PySem.W.exmOne K cls c = some b ∧ (b = false → Wout cls d σ H) ∧
    (b = true → ∀ a, H a = none → ts a cls d { nx := fun σ' H' => D.nx (σ'.set i none) (upd H' a (XO a cls d)), rt := fun v H' => D.rt v (upd H' a (XO a cls d)), bk := fun σ' H' => D.bk (σ'.set i none) (upd H' a (XO a cls d)), ct := fun σ' H' => D.ct (σ'.set i none) (upd H' a (XO a cls d)) } (σ.set i (some (.ref a))) H)
section
variable {X : Cx} {x n : Str} {c : Value} {i : Nat} {body suite : List Stmt} {b₀ : Stmt} {np pos pos' : Pos} {tb : WX → TS} {ts : Addr → Value → Option Addr → TS} {Wout : WX}
/-- try: .. except x as n: .., the error known behind it -/
theorem ps_try_keep (st : X.stack = X.env :: X.outer) (fr : X.env.frame = some X.env.locals) (hex : X.ex = []) (nd : X.N.Nodup) (at_i : X.N[i]? = some n) (loc : X.env.kindOf n = some .local) (nam : Names X x c) (tk : Takes X Wout)
    (hb : ∀ (W : WX) (pn : List (Addr × Obj)) (xe : Value → Shared → Prop), Takes (X.tr pn xe) W → PassesOwn (model X.prog X.w) X.A X.env xe → PSs (X.tr pn xe) body (tb W))
    (hs : ∀ (a : Addr) (oe : Obj) (cls : Value) (d : Option Addr) (pn : List (Addr × Obj)), Zc cls d oe → (∃ vs, oe.data = .fields vs) → PSs (X.suite a ((a, oe) :: pn)) (b₀ :: suite) (ts a cls d)) :
    PS X (.Try body [.ExceptHandler (some (.Name x np)) (some n) (b₀ :: suite) pos'] [] [] pos) (fun D σ H => tb (wKeep X.K c i ts Wout D) D σ H) := by
  refine ⟨fun pins s σ H D I h => ?_⟩
  have frs0 : X.A.frames = some (X.env :: X.outer) := by rw [I.ok.frames, st]
  refine wpAny_Try_except (wpAny_mono ((hb (wKeep X.K c i ts Wout D) (X.pn ++ pins) (fun e s₁ => wpAny (model X.prog X.w) X.A (noteFrame e X.env) (fun _ s₂ => wpAny (model X.prog X.w) X.A (setFlight e none) (fun _ s₃ =>
      wpAny (model X.prog X.w) X.A (handleBy e X.env [.ExceptHandler (some (.Name x np)) (some n) (b₀ :: suite) pos']) (SP X pins D) X.xe s₃) X.xe s₂) X.xe s₁) (fun u s' xx => ?_) PassesOwn.looking).run [] s σ H D (I.toTry _) h) (fun fl s1 hsp => ?_) (fun e s1 y => y))
  · obtain ⟨a, B, sI, pins', σ', H', cls, d, rfl, J', nb, up, sky, na, os, ag, b, hb1, hno, hyes⟩ := xx
    have J : Inv X pins σ' H' sI := J'.ofTry I.ok
    rw [st] at sky
    show wpAny (model X.prog X.w) X.A (noteFrame (.ref a) X.env) _ _ _
    refine Sky.land Zc.steady frs0 fr sky fun h3 fl3 up3 => ?_
    have J3 : Inv X pins σ' H' { s' with heap := h3 } := J.landed nb fl3.1 (up.trans up3) os ag
    obtain ⟨oe3, vs3, ate3, hz3, hd3⟩ := fl3.there
    have nfr : a ∉ frs (X.env :: X.outer) := fun hm => by
      obtain ⟨_, o', e', hnf⟩ := fl3.2.2.1.mem hm
      rw [ate3] at e'
      cases e'
      exact hnf _ hd3
    have nL : a ≠ X.env.locals := fun z => nfr (List.mem_filterMap.mpr ⟨X.env, List.mem_cons_self, by rw [fr, z]⟩)
    have nF : a ∉ X.fs := fun hm => by
      obtain ⟨e, em, eq⟩ := List.mem_filterMap.mp hm
      exact nfr (List.mem_filterMap.mpr ⟨e, List.mem_cons_of_mem _ em, eq⟩)
    have nI : sI.heap.get? a = none := by
      cases z : sI.heap.get? a with
      | none => rfl
      | some o =>
        have y := nb a o z (by rw [st]; exact nfr)
        rw [fl3.2.1] at y
        cases y
    have n0 : X.s_0.heap.get? a = none := by
      cases z : X.s_0.heap.get? a with
      | none => rfl
      | some o =>
        obtain ⟨o', y⟩ := J.base.there a o z (by rw [hex]; simp)
        rw [nI] at y
        cases y
    have npin : ∀ p ∈ X.pn ++ pins, p.1 ≠ a := fun p hp y => by
      have z := (J.pin p hp).1
      rw [y, nI] at z
      cases z
    have S3 := J3.suite ate3 hd3 na nL nF
    refine wpAny_handleBy_cons (codeAny_handlers_test ?_) (by intro q; cases q)
    have ofType : PySem.W.Looks (model X.prog X.w) h3 (typeOf (.ref a)) cls := fun A Q E s k q => wpAny_typeOf_ref (k _ _ ate3) (by rw [hz3.1]; exact q)
    have test : ∀ {Q : Value → Shared → Prop} {E : Value → Shared → Prop}, Q c { s' with heap := h3 } → wpAny (model X.prog X.w) (X.A.mark (some (.ref a))) (eval (.Name x np) X.env) Q E { s' with heap := h3 } := fun {Q E} q => by
      obtain ⟨g1, g2, g3 | ⟨g3, g4, g5⟩⟩ := nam
      · exact ld_glob (X := X.suite a ((a, oe3) :: (X.pn ++ pins))) S3 g1 g3 q g2
      · exact ld_blt (X := X.suite a ((a, oe3) :: (X.pn ++ pins))) S3 g1 g3 g4 q g5 g2
    refine test ((PySem.W.exm_one (M := model X.prog X.w) (J3.kIn) ofType hb1).here ?_)
    cases b with
    | true =>
      refine codeAny_handlers_suite_as (HandSPX.lands_againZ fl3 fun h4 fl4 up4 => ?_)
      have J4 : Inv X pins σ' H' { s' with heap := h4 } := J.landed nb fl4.1 ((up.trans up3).trans up4) os ag
      obtain ⟨oe4, vs4, ate4, hz4, hd4⟩ := fl4.there
      refine store_ok (X := X.suite a ((a, oe4) :: (X.pn ++ pins))) (v := .ref a) (J4.suite ate4 hd4 na nL nF) nd at_i (.inl loc) rfl (fun s5 S5 => ?_) (.inr loc)
      refine wpAny_mono ((hs a oe4 cls d (X.pn ++ pins) hz4 ⟨_, hd4⟩).run [] s5 _ H' _ S5 (hyes rfl a na)) (fun fl s6 hsp => ?_) (fun _ _ z => False.elim z)
      have behind : ∀ {σ6 : St} {H6 : Hp} {Q : Shared → Prop}, Inv (X.suite a ((a, oe4) :: (X.pn ++ pins))) [] σ6 H6 s6 → (∀ s7, Inv X pins (σ6.set i none) (upd H6 a (XO a cls d)) s7 → Q s7) →
          wpAny (model X.prog X.w) X.A (do bindName X.env n .none; unbindBehindTheSuite X.env n pos') (fun _ s7 => Q s7) X.xe s6 := fun {σ6 H6 Q} S6 hq => by
        obtain ⟨g1, g2, _⟩ := S6.pin (a, oe4) (List.mem_append_left _ (List.mem_cons_self ..))
        exact gone_ok (inv_track (S6.unsuite I.ok) g2 g1 hd4 n0 nL npin (xo_ok g1 hz4.1 hz4.2 hd4)) nd at_i loc hq
      cases fl with
      | next => obtain ⟨σ6, H6, S6, q6⟩ := hsp; exact behind S6 fun s7 J7 => ⟨_, _, J7, q6⟩
      | brk => obtain ⟨σ6, H6, S6, q6⟩ := hsp; exact behind S6 fun s7 J7 => ⟨_, _, J7, q6⟩
      | cont => obtain ⟨σ6, H6, S6, q6⟩ := hsp; exact behind S6 fun s7 J7 => ⟨_, _, J7, q6⟩
      | ret u => obtain ⟨v6, σ6, H6, S6, r6, q6⟩ := hsp; exact behind S6 fun s7 J7 => ⟨_, _, _, J7, r6, q6⟩
    | false =>
      show wpAny _ X.A (handleBy (.ref a) X.env []) _ _ _
      refine wpAny_handleBy_nil ?_
      obtain ⟨f1, f2, f3, oe, vs, tr, otr, tsr, ate, hz, hd, h1, hr⟩ := id fl3
      unfold PySem.passOn
      refine wpAny_bind (wpAny_field ate hd h1 ?_)
      rw [if_neg (show ¬ ((Value.ref tr == Value.none) = true) from by simp)]
      have fin : wpAny (model X.prog X.w) X.A (setFlight (.ref a) X.env.frame) (fun _ s4 => wpAny (model X.prog X.w) X.A (throw (.ref a) : Sem Flow) (SP X pins D) X.xe s4) X.xe { s' with heap := h3 } := by
        rw [fr]
        exact HandSPX.setFlight_upZ fl3 fun h4 hh4 up4 => wpAny_throw (tk _ _ ⟨a, B, sI, pins, σ', H', cls, d, rfl, J, nb, (up.trans up3).trans up4, .inr (.inr (by rw [st]; exact hh4)), na, os, ag, hno rfl⟩)
      first
        | exact wpAny_bind (wpAny_pure (wpAny_bind fin))
        | exact wpAny_bind fin
  · cases fl with
    | next => obtain ⟨σ', H', J', q⟩ := hsp; exact wpAny_execs_nil ⟨σ', H', J'.ofTry I.ok, q⟩
    | brk => obtain ⟨σ', H', J', q⟩ := hsp; exact ⟨σ', H', J'.ofTry I.ok, q⟩
    | cont => obtain ⟨σ', H', J', q⟩ := hsp; exact ⟨σ', H', J'.ofTry I.ok, q⟩
    | ret u => obtain ⟨v, σ', H', J', r, q⟩ := hsp; exact ⟨v, σ', H', J'.ofTry I.ok, r, q⟩
end
end DL
end L2

/-! DL35: try: .. except x as n: t = n -/
namespace L2
namespace DL
open PySem PySem.Spec PyProof.Rows
variable [HasW]
/-- tk: whether an error of that name is taken -/
def tryK (tk : Str → Option Bool) (i j : Nat) (m : SD) : SD := fun ρ G => match m ρ G with
  | .ex c d ρ' G' => (match tk c with
    | some true => if i < ρ'.length then .nx ((ρ'.set j (some (.dat (.exc c d)))).set i none) G' else .no
    | some false => .ex c d ρ' G'
    | none => .no)
  | r => r
theorem at_clear {K : PySem.W.Frag} {hd as : List Addr} {ρ : Ev} {G : Gh} {σ : St} {H : Hp} (a : At K hd as ρ G σ H) (i : Nat) : At K hd as (ρ.set i none) G (σ.set i none) H := At.wipe a [i]
section
variable {X : Cx} {W : WX} {x n t : Str} {c : Value} {i j : Nat} {body : List Stmt} {np p1 p2 p3 pos pos' : Pos} {m : SD} {tkf : Str → Option Bool}
theorem q_tryK (st : X.stack = X.env :: X.outer) (fr : X.env.frame = some X.env.locals) (hex : X.ex = []) (nd : X.N.Nodup) (at_i : X.N[i]? = some n) (loc : X.env.kindOf n = some .local) (at_j : X.N[j]? = some t) (locj : X.env.kindOf t = some .local) (nij : i ≠ j)
    (nam : Names X x c) (tk : Takes X W) (tkc : ∀ e b, tkf e = some b → PySem.W.exmOne X.K (.ref (He.ga X.K e)) c = some b)
    (hdn : (n == ("__debug__" : Str)) = false) (hcn : (n == ("__classdict__" : Str)) = false)
    (hb : ∀ (W' : WX) (pn : List (Addr × Obj)) (xe : Value → Shared → Prop), Takes (X.tr pn xe) W' → PassesOwn (model X.prog X.w) X.A X.env xe → QSs (X.tr pn xe) W' body m)
    (hs : ∀ (a : Addr) (pn : List (Addr × Obj)), swapsWithSole [.Name t p1] (.Name n p2) p3.line (X.suite a pn).env = pure false := by intros; rfl) (hw : ∀ (a : Addr) (pn : List (Addr × Obj)), swappedStores [.Name t p1] (.Name n p2) (X.suite a pn).env = pure none := by intros; rfl)
    (h1 : ∀ (a : Addr) (pn : List (Addr × Obj)), (assignEach [.Name t p1] (X.suite a pn).env).map (·.2) = [assign (.Name t p1) (X.suite a pn).env] := by intros; rfl) :
    QS X W (.Try body [.ExceptHandler (some (.Name x np)) (some n) [.Assign [.Name t p1] (.Name n p2) p3] pos'] [] [] pos) (tryK tkf i j m) := by
  refine (ps_try_keep (ts := fun _ _ _ => tAsg (tVar i) (gName j)) (tb := fun W' => lowS X.K W' m) st fr hex nd at_i loc nam tk hb fun a oe cls d pn _ _ => pss_one (ps_asg (pe_var at_i (.inl loc) hdn hcn) (pg_name nd at_j (.inl locj) (.inr locj)) (hs _ _) (hw _ _) (h1 _ _))).imp
    fun D σ H ⟨hd, as, ρ, G, a, q⟩ => ⟨hd, as, ρ, G, a, ?_⟩
  unfold tryK at q
  cases em : m ρ G with
  | nx ρ' G' => rw [em] at q; exact q
  | rt v G' => rw [em] at q; exact q
  | bk ρ' G' => rw [em] at q; exact q
  | ct ρ' G' => rw [em] at q; exact q
  | no => rw [em] at q; exact q
  | ex e d ρ' G' =>
    rw [em] at q
    dsimp only at q
    intro as' H' σ' dd e1 a1 t1
    cases et : tkf e with
    | none => rw [et] at q; exact q.elim
    | some b =>
      rw [et] at q
      refine ⟨b, tkc _ _ et, fun z => ?_, fun z a0 na => ?_⟩
      · subst z
        exact q as' H' σ' dd e1 a1 t1
      · subst z
        by_cases hi' : i < ρ'.length
        case neg => simp only [if_neg hi'] at q; exact q.elim
        simp only [if_pos hi'] at q
        have hi : i < σ'.length := by rw [← a1.len]; exact hi'
        refine ⟨.ref a0, List.getElem?_set_self hi, ?_⟩
        obtain ⟨v, t2, t3⟩ := t1
        obtain ⟨e2, w2⟩ := wd_xd (u := XO a0 (.ref (He.ga X.K e)) (some dd)) a1.wd na
        have rx : RelVl X.K as' (Fz hd as' G' (upd H' a0 (XO a0 (.ref (He.ga X.K e)) (some dd)))) (.dat (.exc e d)) (.ref a0) := RelD.exc (fz_new a1.wd na) (e2.keep _ _ t2) (RelD.mono e2.keep t3)
        have a2 := at_clear ((a1.ext e2 w2).set (j := j) rx) i
        have es : ((σ'.set i (some (V.ref a0))).set j (some (V.ref a0))).set i none = (σ'.set j (some (V.ref a0))).set i none := by
          rw [List.set_comm _ _ nij, List.set_set]
        show D.nx (((σ'.set i (some (V.ref a0))).set j (some (V.ref a0))).set i none) _
        rw [es]
        exact q as' _ _ (e1.trans e2) a2
end
end DL
end L2

/-! DL36: dicts whose keys are tuples -/
namespace L2
namespace DL
open PySem PySem.Spec PyProof.Rows
variable [HasW]
theorem nkOfs_cons {d : D} {l : List D} {ks : List NestedKey} (h : nkOfs (d :: l) = some ks) : ∃ k r, ks = k :: r ∧ nkOf d = some k ∧ nkOfs l = some r := by
  unfold nkOfs at h
  cases e : nkOf d with
  | none => rw [e] at h; cases h
  | some k =>
    rw [e] at h
    obtain ⟨r, h1, rfl⟩ := Option.map_eq_some_iff.mp h
    exact ⟨k, r, rfl, rfl, h1⟩
section
variable {X : Cx} {pins : List (Addr × Obj)} {σ : St} {H : Hp} {s : Shared}
mutual
theorem nk_is (I : Inv X pins σ H s) : ∀ {d : D} {v : V} {u : Value} {k : NestedKey}, RelD X.K H d v → RelV v u → nkOf d = some k → NestedIs s.heap k u
  | .non, _, _, _, r, ru, h => by cases r; unfold nkOf at h; cases h; cases ru; exact .none
  | .bl b, _, _, _, r, ru, h => by cases r; unfold nkOf at h; cases h; cases ru; exact .bool rfl
  | .int i, _, _, _, r, ru, h => by cases r; unfold nkOf at h; cases h; obtain ⟨t, rfl⟩ := ru; exact .int i t
  | .str x, _, _, _, r, ru, h => by cases r; unfold nkOf at h; cases h; obtain ⟨t, rfl⟩ := ru; exact .text x t
  | .tup l, _, _, _, r, ru, h => by
    unfold nkOf at h
    obtain ⟨ks, h1, rfl⟩ := Option.map_eq_some_iff.mp h
    cases r with
    | tup q1 q2 =>
      cases ru
      obtain ⟨its, r1, ⟨o, e1, e2, n, e3⟩, _⟩ := I.tuple q1
      exact .tup e1 e2 e3 (by simpa using nk_all I q2 r1 h1)
  | .lst _, _, _, _, _, _, h => by unfold nkOf at h; cases h
  | .dct _, _, _, _, _, _, h => by unfold nkOf at h; cases h
  | .dcN _, _, _, _, _, _, h => by unfold nkOf at h; cases h
  | .set _, _, _, _, _, _, h => by unfold nkOf at h; cases h
  | .obj _ _, _, _, _, _, _, h => by unfold nkOf at h; cases h
  | .exc _ _, _, _, _, _, _, h => by unfold nkOf at h; cases h
theorem nk_all (I : Inv X pins σ H s) : ∀ {ds : List D} {vs : List V} {us : List Value} {ks : List NestedKey}, RelDs X.K H ds vs → Vals vs us → nkOfs ds = some ks → NestedAll s.heap ks us
  | [], _, _, _, r, ru, h => by cases r; cases ru; unfold nkOfs at h; cases h; exact .nil
  | d :: ds, _, _, _, r, ru, h => by
    obtain ⟨k, ks, rfl, h1, h2⟩ := nkOfs_cons h
    cases r with
    | cons r1 r2 =>
      cases ru with
      | cons u1 u2 => exact .cons (nk_is I r1 u1 h1) (nk_all I r2 u2 h2)
end
theorem nkT_is (I : Inv X pins σ H s) {d : D} {v : V} {k : NestedKey} (r : RelD X.K H d v) (h : nkT d = some k) : ∃ b, v = .ref b ∧ (nestedKind X.prog X.w).is s.heap k b := by
  unfold nkT at h
  split at h
  · rename_i l
    cases e : nkOfs l with
    | none => rw [e] at h; cases h
    | some ks =>
      simp only [e] at h
      split at h
      · rename_i hd
        cases h
        cases r with
        | tup q1 q2 => exact ⟨_, rfl, nk_is I (.tup q1 q2) rfl (by unfold nkOf; rw [e]; rfl), hd⟩
      · cases h
  · cases h
end
/-! ### entries -/
def PN (K : PySem.W.Frag) (F : Hp) {α : Type} (P : α → V → Prop) (p : D × α) (x : NE) : Prop := nkT p.1 = some x.1 ∧ RelD K F p.1 (.ref x.2.1) ∧ P p.2 x.2.2
theorem pn_of {K : PySem.W.Frag} {F : Hp} {α : Type} {P : α → V → Prop} : ∀ {l : List (D × α)} {xs : List NE}, l.map (fun p => nkT p.1) = xs.map (fun x => some x.1) → RelDs K F (l.map (·.1)) (xs.map fun x => .ref x.2.1) → Paired P (l.map (·.2)) (xs.map (·.2.2)) → Paired (PN K F P) l xs
  | [], [], _, _, _ => .nil
  | [], _ :: _, h, _, _ => by simp at h
  | _ :: _, [], h, _, _ => by simp at h
  | p :: l, x :: xs, h, r, q => by
    simp only [List.map_cons, List.cons.injEq] at h r q
    cases r with
    | cons r1 r2 =>
      cases q with
      | cons q1 q2 => exact .cons ⟨h.1, r1, q1⟩ (pn_of h.2 r2 q2)
theorem pn_to {K : PySem.W.Frag} {F : Hp} {α : Type} {P : α → V → Prop} {l : List (D × α)} {xs : List NE} (h : Paired (PN K F P) l xs) : l.map (fun p => nkT p.1) = xs.map (fun x => some x.1) ∧ RelDs K F (l.map (·.1)) (xs.map fun x => .ref x.2.1) ∧ Paired P (l.map (·.2)) (xs.map (·.2.2)) := by
  induction h with
  | nil => exact ⟨rfl, .nil, .nil⟩
  | cons a _ ih => exact ⟨by simp only [List.map_cons]; rw [ih.1, a.1], .cons a.2.1 ih.2.1, .cons a.2.2 ih.2.2⟩
def isNk (k : NestedKey) (d : D) : Bool := match nkT d with
  | some k' => NestedKey.beq k' k
  | none => false
def lookN {α : Type} (l : List (D × α)) (k : NestedKey) : Option α := (l.find? fun p => isNk k p.1).map (·.2)
def putN {α : Type} (l : List (D × α)) (k : NestedKey) (d : D) (x : α) : List (D × α) := if (l.any fun p => isNk k p.1) = true then l.map (fun p => if isNk k p.1 = true then (p.1, x) else p) else l ++ [(d, x)]
def PE2 (x : NE) (y : NestedKey × Addr × Value) : Prop := x.1 = y.1 ∧ x.2.1 = y.2.1 ∧ RelV x.2.2 y.2.2
def putE (xs : List NE) (k : NestedKey) (b : Addr) (v : V) : List NE := if (xs.any fun x => NestedKey.beq x.1 k) = true then xs.map (fun x => if NestedKey.beq x.1 k = true then (x.1, x.2.1, v) else x) else xs ++ [(k, b, v)]
theorem pn_any {K : PySem.W.Frag} {F : Hp} {α : Type} {P : α → V → Prop} {k : NestedKey} {l : List (D × α)} {xs : List NE} (h : Paired (PN K F P) l xs) : (l.any fun p => isNk k p.1) = (xs.any fun x => NestedKey.beq x.1 k) := by
  induction h with
  | nil => rfl
  | cons a _ ih =>
    rw [List.any_cons, List.any_cons, ih]
    unfold isNk
    rw [a.1]
theorem paired_snoc {α β : Type} {P : α → β → Prop} {x : α} {v : β} (r : P x v) {xs : List α} {ys : List β} (h : Paired P xs ys) : Paired P (xs ++ [x]) (ys ++ [v]) := by
  induction h with
  | nil => exact .cons r .nil
  | cons a _ ih => exact .cons a ih
theorem putN_rel {K : PySem.W.Frag} {F : Hp} {α : Type} {P : α → V → Prop} {k : NestedKey} {d : D} {b : Addr} {x : α} {v : V} {l : List (D × α)} {xs : List NE} (h : Paired (PN K F P) l xs) (hk : nkT d = some k) (rd : RelD K F d (.ref b)) (r : P x v) : Paired (PN K F P) (putN l k d x) (putE xs k b v) := by
  unfold putN putE
  rw [pn_any h]
  by_cases e : (xs.any fun x => NestedKey.beq x.1 k) = true
  · rw [if_pos e, if_pos e]
    clear e
    induction h with
    | nil => exact .nil
    | @cons p q ps qs a _ ih =>
      refine .cons ?_ ih
      have ei : isNk k p.1 = NestedKey.beq q.1 k := by unfold isNk; rw [a.1]
      dsimp only
      rw [ei]
      by_cases e2 : NestedKey.beq q.1 k = true
      · rw [if_pos e2, if_pos e2]; exact ⟨a.1, a.2.1, r⟩
      · rw [if_neg e2, if_neg e2]; exact a
  · rw [if_neg e, if_neg e]
    exact paired_snoc ⟨hk, rd, r⟩ h
theorem putE_val {k : NestedKey} {b : Addr} {v : V} {u : Value} {xs : List NE} {ys : List (NestedKey × Addr × Value)} (h : Paired PE2 xs ys) (r : RelV v u) : Paired PE2 (putE xs k b v) (storedH ys k b u) := by
  have e : (xs.any fun x => NestedKey.beq x.1 k) = (atKey ys k).isSome := by
    unfold atKey
    rw [Option.isSome_map]
    induction h with
    | nil => rfl
    | @cons p q ps qs a _ ih =>
      rw [List.any_cons, ih, List.find?_cons]
      have ee : NestedKey.beq p.1 k = decide (q.1 = k) := by rw [NestedKey.decide_eq, a.1]
      rw [ee]
      cases decide (q.1 = k) <;> rfl
  unfold putE storedH
  rw [e]
  by_cases e1 : (atKey ys k).isSome = true
  · rw [if_pos e1, if_pos e1]
    clear e e1
    induction h with
    | nil => exact .nil
    | @cons p q ps qs a _ ih =>
      refine .cons ?_ ih
      have ee : NestedKey.beq p.1 k = decide (q.1 = k) := by rw [NestedKey.decide_eq, a.1]
      unfold putAt
      dsimp only
      rw [ee]
      by_cases e2 : q.1 = k
      · rw [decide_eq_true e2, if_pos rfl, if_pos e2]; exact ⟨a.1, a.2.1, r⟩
      · rw [decide_eq_false e2, if_neg Bool.false_ne_true, if_neg e2]; exact a
  · rw [if_neg e1, if_neg e1]
    exact paired_snoc ⟨rfl, rfl, r⟩ h
theorem putE_length (xs : List NE) (k : NestedKey) (b : Addr) (v : V) : (putE xs k b v).length ≤ xs.length + 1 := by
  unfold putE
  split <;> simp
theorem lookN_rel {K : PySem.W.Frag} {F : Hp} {α : Type} {P : α → V → Prop} {k : NestedKey} {l : List (D × α)} {xs : List NE} {ys : List (NestedKey × Addr × Value)} (h : Paired (PN K F P) l xs) (h2 : Paired PE2 xs ys) :
    match lookN l k with
    | some x => ∃ v p, atKey ys k = some p ∧ RelV v p.2 ∧ P x v
    | none => atKey ys k = none := by
  induction h generalizing ys with
  | nil => cases h2; rfl
  | @cons p q ps qs a _ ih =>
    cases h2 with
    | @cons _ y _ ys b t =>
    have ei : isNk k p.1 = decide (y.1 = k) := by unfold isNk; rw [a.1, NestedKey.decide_eq, ← b.1]
    unfold lookN atKey
    rw [List.find?_cons, List.find?_cons, ei]
    by_cases e : y.1 = k
    · rw [decide_eq_true e]
      exact ⟨q.2.2, y.2, rfl, b.2.2, a.2.2⟩
    · rw [decide_eq_false e]
      exact ih t
theorem keys_eq {xs : List NE} {ys : List (NestedKey × Addr × Value)} (h : Paired PE2 xs ys) : xs.map (·.1) = ys.map (·.1) := by
  induction h with
  | nil => rfl
  | cons a _ ih => simp only [List.map_cons]; rw [ih, a.1]
/-- the dict in the heap -/
theorem dn_of {X : Cx} {pins : List (Addr × Obj)} {σ : St} {H : Hp} {s : Shared} {a : Addr} {xs : List NE} (hw : X.w = HasW.w) (I : Inv X pins σ H s) (e : H a = some (DN a xs)) (hk : ∀ x ∈ xs, (nestedKind X.prog X.w).is s.heap x.1 x.2.1) :
    xs.length ≤ sizeLine ∧ (a == sysModules) = false ∧ ∃ ys, Paired PE2 xs ys ∧ s.heap.DictOfH (nestedKind X.prog X.w) a ys := by
  have z : ObjOk X.prog X.w H s.heap a (DN a xs) := I.hok a _ e
  obtain ⟨⟨h1, h2, h3, ys, o, es, ep, h4, h5, h6, h7, h8⟩, _, _⟩ := (show (_ ∧ _ ∧ _) from z)
  refine ⟨h1, h2, ys, h4, o, es, ep, h5, h6, h7, by rw [h8]; unfold entryOfKey; rw [← hw]; rfl, ?_, by rw [← keys_eq h4]; exact h3⟩
  have all : ∀ {xs : List NE} {ys : List (NestedKey × Addr × Value)}, Paired PE2 xs ys → (∀ x ∈ xs, (nestedKind X.prog X.w).is s.heap x.1 x.2.1) → ∀ y ∈ ys, (nestedKind X.prog X.w).is s.heap y.1 y.2.1 := by
    intro xs ys h
    induction h with
    | nil => intro _ y hy; exact nomatch hy
    | @cons p q ps qs b _ ih =>
      intro hh y hy
      rcases List.mem_cons.mp hy with e | hy
      · subst e
        have := hh p (List.mem_cons_self ..)
        rw [b.1, b.2.1] at this
        exact this
      · exact ih (fun x hx => hh x (List.mem_cons_of_mem _ hx)) y hy
  exact all h4 hk
theorem dn_ok {P : Program} {H : Hp} {h : Heap} {a : Addr} {xs : List NE} {ys : List (NestedKey × Addr × Value)} {w : World} (hw : w = HasW.w) (z : xs.length ≤ sizeLine) (y : (a == sysModules) = false) (r : Paired PE2 xs ys) (dd : h.DictOfH (nestedKind P w) a ys) : ObjOk P w H h a (DN a xs) := by
  obtain ⟨o, es, ep, h5, h6, h7, h8, _, h9⟩ := dd
  refine ⟨⟨z, y, by rw [keys_eq r]; exact h9, ys, o, es, ep, r, h5, h6, h7, by rw [h8, ← hw]; rfl⟩, ⟨o, h5⟩, ?_⟩
  intro h1 h2 ⟨a1, a2, a3, ys, o, es, ep, a4, a5, a6⟩ k
  exact ⟨a1, a2, a3, ys, o, es, ep, a4, k _ a5, a6⟩
theorem pn_keys {X : Cx} {pins : List (Addr × Obj)} {σ : St} {H F : Hp} {s : Shared} {α : Type} {P : α → V → Prop} {l : List (D × α)} {xs : List NE} (I : Inv X pins σ H s) (hF : ∀ a o, F a = some o → H a = some o) (h : Paired (PN X.K F P) l xs) : ∀ x ∈ xs, (nestedKind X.prog X.w).is s.heap x.1 x.2.1 := by
  induction h with
  | nil => intro x hx; exact nomatch hx
  | @cons p q ps qs a _ ih =>
    intro x hx
    rcases List.mem_cons.mp hx with e | hx
    · subst e
      obtain ⟨b, eb, hb⟩ := nkT_is I (RelD.mono hF a.2.1) a.1
      cases eb
      exact hb
    · exact ih x hx
/-! ### the operations -/
/-- the entries of a dict with tuples as keys, cell or data -/
def entsN (x : Vl) (G : Gh) : Option (List (D × Vl)) := match x with
  | .dat (.dcN l) => some (l.map fun p => (p.1, .dat p.2))
  | .ref i => (match G[i]? with
    | some (.dcN l) => some l
    | _ => none)
  | _ => none
section
variable {K : PySem.W.Frag} {hd as : List Addr} {G : Gh} {H : Hp}
theorem entsN_rel {x : Vl} {v : V} {l : List (D × Vl)} (w : Wd K hd as G H) (r : RelVl K as (Fz hd as G H) x v) (h : entsN x G = some l) : ∃ a xs, v = .ref a ∧ H a = some (DN a xs) ∧ Paired (PN K (Fz hd as G H) (RelVl K as (Fz hd as G H))) l xs := by
  unfold entsN at h
  split at h
  · rename_i m
    cases h
    cases r with
    | @dcN _ a xs h1 h2 h3 h4 =>
      refine ⟨a, xs, rfl, Fz.of h1, pn_of (by simpa [List.map_map, Function.comp_def] using h2) (by simpa [List.map_map, Function.comp_def] using h3) ?_⟩
      have e : (m.map fun p => (p.1, Vl.dat p.2)).map (·.2) = (m.map (·.2)).map Vl.dat := by simp [List.map_map, Function.comp_def]
      rw [e]
      have go : ∀ {ds : List D} {vs : List V}, RelDs K (Fz hd as G H) ds vs → Paired (RelVl K as (Fz hd as G H)) (ds.map Vl.dat) vs := by
        intro ds
        induction ds with
        | nil => intro vs r; cases r; exact .nil
        | cons d ds ih => intro vs r; cases r with | cons a b => exact .cons a (ih b)
      exact go h4
  · rename_i i
    obtain ⟨a, ha, rfl⟩ := r
    split at h
    · rename_i m eg
      cases h
      obtain ⟨xs, h1, h2, h3, h4⟩ := w.at eg ha
      exact ⟨a, xs, rfl, h1, pn_of h2 h3 h4⟩
    · cases h
  · cases h
end
def inNO (neg : Bool) : O2 := fun x y G => match x, entsN y G with
  | .dat d, some l => (match nkT d with
    | some k => some (.dat (.bl (if neg = true then !(lookN l k).isSome else (lookN l k).isSome)), G)
    | none => none)
  | _, _ => none
def ixNO : O2 := fun x y G => match entsN x G, y with
  | some l, .dat d => (match nkT d with
    | some k => (lookN l k).map fun v => (v, G)
    | none => none)
  | _, _ => none
def lenNO : Vl → Gh → Option (Vl × Gh) := fun x G => (entsN x G).map fun l => (.dat (.int l.length), G)
section
variable {X : Cx} {W : WX} {pos : Pos}
theorem room8 (hu : X.A.units + 65 < cLine) {P : Program} {w : World} : (nestedKind P w).room X.A.in1 := by
  show X.A.in1.units + 8 < cLine
  simp only [Around.in1_units]
  omega
theorem ol_inN (neg : Bool) (hw : X.w = HasW.w) (hu : X.A.units + 65 < cLine) : OpL X (compareOp (if neg = true then .NotIn else .In)) (inNO neg) := by
  intro pins s σ H x y v u Q hd as G a b I rx ry w ra rb h
  unfold inNO at h
  split at h
  · rename_i d l e
    cases ek : nkT d with
    | none => simp only [ek] at h; exact h.elim
    | some k =>
      simp only [ek] at h
      obtain ⟨p, xs, rfl, hp, pn⟩ := entsN_rel w rb e
      cases ry
      obtain ⟨c, ec, hc⟩ := nkT_is I (RelD.mono (fun _ _ => Fz.of) ra) ek
      subst ec
      cases rx
      obtain ⟨hz, hm, ys, r2, dd⟩ := dn_of hw I hp (pn_keys I (fun _ _ => Fz.of) pn)
      have lk := lookN_rel (k := k) pn r2
      have es : (lookN l k).isSome = (atKey ys k).isSome := by
        cases e1 : lookN l k with
        | none => rw [e1] at lk; rw [lk]; rfl
        | some z => rw [e1] at lk; obtain ⟨v, p, e2, _⟩ := lk; rw [e2]; rfl
      have q := fun bb => ResO.dat (Q := Q) w (RelD.bl bb)
      cases neg with
      | false =>
        refine wpAny_in_heap (room8 hu) hc hm dd ⟨.bl _, H, I.tok _, rfl, ?_⟩
        rw [← es]
        exact q _ h
      | true =>
        refine notIn_keyed (room8 hu) hc hm ⟨ys, dd, rfl⟩ ⟨.bl _, H, I.tok _, rfl, ?_⟩
        rw [valueAt_pairsH, Option.isSome_map, ← es]
        exact q _ h
  · exact h.elim
theorem il_ixN (hw : X.w = HasW.w) (hu : X.A.units + 65 < cLine) : IxL X ixNO := by
  intro value slice pins s σ H x y v u Q hd as G a b I rx ry w ra rb h hs
  unfold ixNO at h
  split at h
  · rename_i l d e
    cases ek : nkT d with
    | none => simp only [ek] at h; exact h.elim
    | some k =>
      simp only [ek] at h
      obtain ⟨p, xs, rfl, hp, pn⟩ := entsN_rel w ra e
      cases rx
      obtain ⟨c, ec, hc⟩ := nkT_is I (RelD.mono (fun _ _ => Fz.of) rb) ek
      subst ec
      cases ry
      obtain ⟨hz, hm, ys, r2, dd⟩ := dn_of hw I hp (pn_keys I (fun _ _ => Fz.of) pn)
      have lk := lookN_rel (k := k) pn r2
      cases e1 : lookN l k with
      | none => rw [e1] at h; exact h.elim
      | some z =>
        rw [e1] at lk h
        obtain ⟨v, p2, e2, e3, e4⟩ := lk
        exact tail_any dd.typeIs PySem.F.slot_dict_getitem.lookup (wpAny_getItem_heap (room8 hu) hc dd e2 ⟨v, H, I.tok _, e3, ResO.one w e4 h⟩) hs
  · exact h.elim
theorem cl_lenN (hw : X.w = HasW.w) : CallL X (.builtin "len") (oneO lenNO) := by
  intro pins s σ H xs us Q hd as G a I rv w ra h
  unfold oneO at h
  split at h
  · rename_i x
    cases ra with
    | cons r1 rn =>
    cases rn
    unfold lenNO at h
    cases e : entsN x G with
    | none => rw [e] at h; exact h.elim
    | some l =>
      rw [e] at h
      obtain ⟨p, xs, rfl, hp, pn⟩ := entsN_rel w r1 e
      cases rv with
      | cons u1 un =>
      cases un
      cases u1
      obtain ⟨hz, hm, ys, r2, dd⟩ := dn_of hw I hp (pn_keys I (fun _ _ => Fz.of) pn)
      have hl : l.length = ys.length := (Paired.length pn).trans (Paired.length r2)
      refine call_len_dictH hm dd (by rw [← Paired.length r2]; rw [sizeLine_eq] at hz; omega) ?_
      rw [← hl]
      exact ⟨.int _, H, I.tok _, ⟨_, rfl⟩, ResO.dat w (RelD.int _) h⟩
  · exact h.elim
/-! ### {} and o[i] = e -/
def dnewN : Ev → M Vl := fun _ G => .ok (.ref G.length) (G ++ [.dcN []])
theorem pe_dnewN (hw : X.w = HasW.w) : PE X (.Dict [] [] pos) (fun _ H Q => ∀ p, H p = none → Q (.ref p) (upd H p (DN p []))) := ⟨fun pins s σ H Q I h =>
  wpAny_Dict_empty ⟨.ref s.heap.objs.size, _, I.laid (a := s.heap.objs.size) (o := DN s.heap.objs.size []) (t' := s.toks) (fun _ _ q => Heap.get?_push_of_some _ q) (Nat.le_refl _)
    (dn_ok (ys := []) hw (Nat.zero_le _) (beq_eq_false_iff_ne.mpr (Ne.symm (Nat.ne_of_lt I.big))) .nil ⟨_, #[], 0, Heap.get?_push_size _ rfl, ⟨rfl, rfl, rfl⟩, rfl, rfl, (fun x hx => nomatch hx), List.nodup_nil⟩), rfl, h _ (I.hok.fresh (Nat.le_refl _))⟩⟩
theorem q_dnewN (hw : X.w = HasW.w) : QE X W (.Dict [] [] pos) dnewN := (pe_dnewN hw).imp fun σ H Q ⟨hd, as, ρ, G, a, q⟩ p hp => by
  obtain ⟨w2, e2⟩ := a.wd.cellNew (go := .dcN []) (o := DN p []) hp (fun F k => ⟨[], upd_same, rfl, .nil, .nil⟩) rfl
  exact q _ _ (.ref p) e2 w2 ⟨p, by rw [← a.wd.len]; simp, rfl⟩
def setNO (o i v : Vl) (G : Gh) : Option Gh := match o, i with
  | .ref j, .dat d => (match G[j]? with
    | some (.dcN l) => (match nkT d with
      | some k => if l.length < sizeLine then some (G.set j (.dcN (putN l k d v))) else none
      | none => none)
    | _ => none)
  | _, _ => none
theorem set_lowN (hw : X.w = HasW.w) (hu : X.A.units + 65 < cLine) {pins : List (Addr × Obj)} {s : Shared} {σ : St} {H : Hp} {o i v : V} {ov iv u : Value} {Q : Hp → Prop} {hd as : List Addr} {G G' : Gh} {a b c : Vl} (I : Inv X pins σ H s) (ro : RelV o ov) (ri : RelV i iv) (rv : RelV v u)
    (w : Wd X.K hd as G H) (ra : RelVl X.K as (Fz hd as G H) a o) (rb : RelVl X.K as (Fz hd as G H) b i) (rc : RelVl X.K as (Fz hd as G H) c v) (h : setNO a b c G = some G')
    (q : ∀ H', Ext hd as G H as G' H' → Wd X.K hd as G' H' → Q H') : wpAny (model X.prog X.w) X.A (setItem ov iv u) (fun _ s' => ∃ H', Inv X pins σ H' s' ∧ Q H') X.xe s := by
  unfold setNO at h
  split at h
  · rename_i j d
    obtain ⟨p, hp, rfl⟩ := ra
    split at h
    · rename_i l eg
      cases ek : nkT d with
      | none => simp only [ek] at h; cases h
      | some k =>
        simp only [ek] at h
        split at h
        · rename_i hz
          cases h
          obtain ⟨xs, h1, h2, h3, h4⟩ := w.at eg hp
          have pn := pn_of h2 h3 h4
          obtain ⟨e, ee, hc⟩ := nkT_is I (RelD.mono (fun _ _ => Fz.of) (show RelD X.K (Fz hd as G H) d i from rb)) ek
          subst ee
          cases ri
          cases ro
          obtain ⟨hz2, hm, ys, r2, dd⟩ := dn_of hw I h1 (pn_keys I (fun _ _ => Fz.of) pn)
          have pn2 := putN_rel pn ek rb rc
          obtain ⟨g1, g2, g3⟩ := pn_to pn2
          obtain ⟨w2, e2⟩ := w.upd (go' := .dcN (putN l k d c)) (o' := DN p (putE xs k e v)) hp eg rfl rfl ⟨_, upd_same, g1, g2, g3⟩
          refine wpAny_setItem_heap (hsz := by rw [← Paired.length r2]; exact hz2) (room8 hu) hc dd fun h' dd' hs => ⟨_, ?_, q _ e2 w2⟩
          have hq : ∃ q, h'.get? p = some q := let ⟨q, _, _, hq, _⟩ := dd'; ⟨q, hq⟩
          refine d_write I (by rw [h1]; exact True.intro) hs hq (dn_ok hw ?_ hm (putE_val r2 rv) dd')
          have l1 := Paired.length pn
          have l2 := putE_length xs k e v
          omega
        · cases h
    · cases h
  · cases h
def putNS (mv mo mi : Ev → M Vl) : SD := thenS mv fun v => thenS mo fun o => thenS mi fun i => fun ρ G => match setNO o i v G with
  | some G' => .nx ρ G'
  | none => .no
theorem q_putN {o i value : Expr} {mo mi mv : Ev → M Vl} {pos' : Pos} (hw : X.w = HasW.w) (hu : X.A.units + 65 < cLine) (ho : QE X W o mo) (hi : QE X W i mi) (hv : QE X W value mv) (hs : swapsWith value (some (.Subscript o i pos')) pos.line X.env = pure false := by rfl) : QS X W (.Assign [.Subscript o i pos'] value pos) (putNS mv mo mi) := by
  refine ⟨fun pins s σ H Z I ⟨hd, as, ρ, G, a, q⟩ => ?_⟩
  refine wpAny_Assign_Subscript (thn (hv.run pins s σ H _ I ⟨hd, as, ρ, G, a, thenS_mid a q⟩) fun r s1 ⟨v, H1, I1, rv, as1, G1, x1, e1, a1, rx1, q1⟩ =>
    thn (ho.run pins s1 σ H1 _ I1 ⟨hd, as1, ρ, G1, a1, thenS_mid a1 q1⟩) fun u s2 ⟨o, H2, I2, ro, as2, G2, x2, e2, a2, rx2, q2⟩ =>
    thn (hi.run pins s2 σ H2 _ I2 ⟨hd, as2, ρ, G2, a2, thenS_mid a2 q2⟩) fun iv s3 ⟨y, H3, I3, ry, as3, G3, x3, e3, a3, rx3, q3⟩ => ?_) hs
  cases es : setNO x2 x3 x1 G3 with
  | none => simp only [es] at q3; exact q3.elim
  | some G' =>
    simp only [es] at q3
    exact thn (set_lowN (Q := fun H' => Z.nx σ H') hw hu I3 ro ry rv a3.wd (rx2.ext e3) rx3 (rx1.ext (e2.trans e3)) es fun H' ee w' => q3 _ H' σ ee (a3.ext ee w')) fun _ s4 ⟨H4, I4, q4⟩ => ⟨σ, H4, I4, q4⟩
end
end DL
end L2

/-! DL37: an error as a datum: isinstance, its field -/
namespace PySem.W
open PySem PySem.Spec PySem.Calls PyProof.Rows
section
variable {prog : Program} {w : World} {A : Around} {E : Value → Shared → Prop} {s : Shared} {K : Frag} {x D : Addr} {ox : Obj} {od : Option Obj}
theorem dl_findData {C : Addr} {name : Str} {a g : Value} (c1 : (clsIn K C).isSome = true) (c2 : findIn K (.ref C) name = some (some a)) (c3 : specialIn K a "__get__" = some (some g)) (c4 : takesIn K a = some true) : findObj K C od name = some (.bind g a) := by
  obtain ⟨cd, c5⟩ := Option.isSome_iff_exists.mp c1; unfold findObj
  simp [c5, c2, c3, c4]
theorem dl_classOf {Q : Option Value → Shared → Prop} (T : L2.ExcC K D) (X : K.In s.heap) (I : InstAt s.heap x ox D od) (h : Q (some (.ref D)) { s with toks := s.toks + 1 }) : wpAny (model prog w) A (getAttr? (.ref x) "__class__") Q E s := by
  have f0 : findObj K D od "__class__" = some (.bind (.builtin "getset_descriptor.__get__") (.builtin "object.__class__")) := dl_findData (let ⟨_, z, _⟩ := any_some T.hd; by rw [z]; rfl) T.ha T.hn T.ht
  obtain ⟨hp, g, d, t, os⟩ := s
  have l0 := I.type (M := model prog w); have l1 := looks_findIn (M := model prog w) X T.hg; have l2 := looks_findIn (M := model prog w) X T.hk; have l3 := looks_find (M := model prog w) X I f0
  have l4 : Looks (model prog w) hp (isInstance (.ref x) (.type "BaseException")) true := l0.andThen (looks_subIn X T.hs)
  have b2 : (Value.builtin "BaseException.__getattribute__" == Value.builtin "object.__getattribute__") = false := by decide +kernel
  have b1 : (onTheHeap (Value.ref D) && Value.builtin "BaseException.__getattribute__" == Value.builtin "object.__getattribute__") = false := by rw [b2]; rfl
  unfold getAttr? getAttrBy? getAttrBy
  refine wpAny_bind (wpAny_mkText (wpAny_bind (wpAny_attempt (wpAny_holding (wpAny_bind (l0.at (wpAny_bind (l1.at ?_))))))))
  show wpAny _ _ (ite ((onTheHeap (Value.ref D) && Value.builtin "BaseException.__getattribute__" == Value.builtin "object.__getattribute__") = true) _ _) _ _ _
  rw [if_neg (by rw [b1]; exact Bool.false_ne_true)]
  unfold getAttrByItsOwn hookBefore; refine wpAny_bind ?_
  rw [if_pos (show onTheHeap (Value.ref D) = true from rfl)]; refine l2.at (wpAny_bind (wpAny_attempt (wpAny_holding ?_)))
  unfold callGetattribute; rw [if_neg (show ¬ (false && onTheHeap (Value.builtin "BaseException.__getattribute__")) = true from Bool.false_ne_true)]
  unfold boundAndCalled; rw [PySem.F.excAttr_ValueError.ga.bind (.ref x)]
  refine wpAny_bind (wpAny_pure ?_); show wpAny _ _ (call (.builtin "BaseException.__getattribute__") [.ref x, .str "__class__" t]) _ _ _
  refine wpAny_call (codeAny_call_builtin PySem.F.excAttr_ValueError.ga.plain PySem.F.entry_bexc_ga (@check_slot (model prog w) _ _ ⟨hp, g, d, t + 1, os⟩ "BaseException.__getattribute__" "BaseException" "__getattribute__" (.ref x) [.str "__class__" t] [] _ (by decide +kernel) (by decide +kernel) l4 (PySem.F.args_bexc_ga (.ref x) (.str "__class__" t)) ?_))
  unfold Builtin.«object.__getattribute__»; refine wpAny_bind (wpAny_of_eq (a := ((Value.ref x : Value), [Value.str "__class__" t])) (by first | rfl | (simp only [slotArgs]; rfl)) ?_)
  refine wpAny_bind (wpAny_pure (wpAny_bind (l0.at (wpAny_bind (l3.at ?_))))); show wpAny _ _ (holding [Value.builtin "object.__class__"] (call (.builtin "getset_descriptor.__get__") [.builtin "object.__class__", .ref x, .ref D]) >>= ret) _ _ _
  refine wpAny_bind (wpAny_holding (wpAny_call (class_get (s := ⟨hp, g, d, t + 1, os⟩) (ox := ox) (od := od) X I T.hm (wpAny_pure ?_))))
  show wpAny _ _ (handedOut (.ref D)) _ _ _; rw [handedOut_of (v := .ref D) rfl]
  first | exact wpAny_pure (wpAny_pure h) | exact wpAny_pure h | exact wpAny_pure (wpAny_bind (wpAny_pure (wpAny_pure h)))
theorem dl_kitx (T : L2.ExcC K D) : KitX K (.ref x) (.ref D) (fun h => ∃ od, InstAt h x ox D od) where
  ty := fun _ _ _ ⟨_, I⟩ => I.type
  it := fun _ _ X _ => by
    obtain ⟨c0, c1, _⟩ := any_some T.hd; unfold clsIn at c1
    split at c1
    · rename_i ho; intro A' Q' E' s' k q; unfold isType loadHead; exact wpAny_bind (wpAny_loadPart (k _ _ (X _ _ ho)) (wpAny_pure q))
    · cases c1
  ne := fun h tp dd its n sl X htp => by
    obtain ⟨c0, c1, _⟩ := any_some T.hd; refine Bool.eq_false_iff.mpr fun q => ?_
    have e : D = tp := Value.ref.inj (beq_iff_eq.mp q); subst e; unfold clsIn at c1
    split at c1
    · rename_i ho; cases (X _ _ ho).symm.trans htp
    · cases c1
  ca := fun X ⟨_, I⟩ k => dl_classOf T X I k
end
end PySem.W
namespace L2
namespace DL
open PySem PySem.Spec PyProof.Rows
variable [HasW]
/-- the tracked error, as the model sees it -/
theorem xo_inst {P : Program} {w : World} {H : Hp} {h : Heap} {a C dx : Addr} {fs : List (Str × V)} (hok : HOk P w H h) (e : H a = some (XO a (.ref C) (some dx))) (e2 : H dx = some (.xd fs)) : ∃ oe od mA, PySem.W.InstAt h a oe C (some od) ∧ h.Ns1 dx mA ∧ (∀ f, RelO (fs.lookup f) (mA f)) ∧ h.get? dx = some od := by
  obtain ⟨oe, vs, h1, h2, h3, h4⟩ := xo_at hok e
  have hx : ObjOk P w H h dx (.xd fs) := hok dx _ e2
  obtain ⟨mA, hns, hr⟩ := hx
  obtain ⟨od, ho, hl⟩ := lookIn_ns hns
  exact ⟨oe, od, mA, ⟨h1, h2, by unfold PySem.W.notCls; rw [h4] <;> rfl, by rw [h3]; exact ho⟩, hns, hr, ho⟩
/-- isinstance(e, C), e an error -/
def isxE (f : Str → Option Bool) (m : Ev → M Vl) : Ev → M Vl := fun ρ => andThen (m ρ) fun x G => match x with
  | .dat (.exc c _) => (match f c with
    | some b => .ok (.dat (.bl b)) G
    | none => .no)
  | _ => .no
structure IsX (K : PySem.W.Frag) (u : Value) (f : Str → Option Bool) : Prop where
  tell : ∀ c b, f c = some b → ExcC K (He.ga K c) ∧ PySem.W.kitOne K (.ref (He.ga K c)) u = some b
def rIsX (K : PySem.W.Frag) : List V → Hp → VK → Prop := fun xs H Q => ∃ (c : V) (cv : Value) (a C dx : Addr) (fs : List (Str × V)) (b : Bool), xs = [.ref a, c] ∧ (∀ u, RelV c u → u = cv) ∧ H a = some (XO a (.ref C) (some dx)) ∧ H dx = some (.xd fs) ∧ ExcC K C ∧ PySem.W.kitOne K (.ref C) cv = some b ∧ Q (.bl b) H
theorem call_isX {X : Cx} : CallR X (.builtin "isinstance") (rIsX X.K) := by
  intro pins s σ H xs us Q I r h
  obtain ⟨c, cv, a, C, dx, fs, b, rfl, hcv, e, e2, T, ek, q⟩ := h
  cases r with
  | cons rx rr =>
    cases rr with
    | cons rt rr =>
      cases rr
      cases rx
      have ec := hcv _ rt
      subst ec
      obtain ⟨oe, od, mA, J, _⟩ := xo_inst I.hok e e2
      exact PySem.W.kia_one (PySem.W.dl_kitx T) I.kIn ⟨_, J⟩ ek (fun z => nomatch z) fun tk => ⟨.bl b, H, I.kept (t' := tk) fun _ _ z => z, rfl, q⟩
section
variable {X : Cx} {W : WX} {e c : Expr} {m : Ev → M Vl} {pos p : Pos}
theorem q_isx {cv : V} {u : Value} {g : Str → Option Bool} (hg : Gl X "isinstance") (hm : X.mg "isinstance" = none) (he : QE X W e m) (hc : PE X c (tC cv)) (cu : ∀ z, RelV cv z → z = u) (t : IsX X.K u g)
    (h1 : starEach [e, c] X.env = (false, eval e X.env) :: starEach [c] X.env := by rfl) (h2 : starEach [c] X.env = (false, eval c X.env) :: starEach [] X.env := by rfl) (hpl : (backTo pos (starEach [c] X.env)).any (·.1) = false := by rfl) :
    QE X W (.Call (.Name "isinstance" p) [e, c] [] pos) (isxE g m) :=
  (pe_callB call_isX hg hm boot_isinstance (pa_cons he (pa_cons hc pa_nil h2) h1) (by decide) (by decide) h1 hpl).imp fun σ H Q ⟨hd, as, ρ, G, a, q⟩ => ⟨hd, as, ρ, G, a, (Res.bind q).mono fun v H1 ⟨as1, G1, x, e1, w1, r1, q1⟩ => by
    match x, q1, r1 with
    | .ref _, q1, _ => exact q1.elim
    | .pr _ _, q1, _ => exact q1.elim
    | .dat d, q1, r1 =>
      cases d with
      | exc c0 d0 =>
        dsimp only at q1
        cases ek : g c0 with
        | none => rw [ek] at q1; exact q1.elim
        | some b =>
          rw [ek] at q1
          obtain ⟨t1, t2⟩ := t.tell c0 b ek
          cases r1 with
          | exc x1 x2 x3 => exact ⟨cv, u, _, _, _, _, b, rfl, cu, Fz.of x1, Fz.of x2, t1, t2, q1 as1 H1 (.bl b) (Ext.refl _ _ _ _) w1 (RelD.bl b)⟩
      | _ => exact q1.elim⟩
/-- e.f, e an error that keeps f -/
def xfE (cs : List Str) (f : Str) (m : Ev → M Vl) : Ev → M Vl := fun ρ => andThen (m ρ) fun x G => match x with
  | .dat (.exc c d) => if c ∈ cs ∧ fieldOf c = f then .ok (.dat d) G else .no
  | _ => .no
theorem q_xf {cs : List Str} {f : Str} (T : ∀ c ∈ cs, XfC X.K (He.ga X.K c) ∧ PySem.W.findIn X.K (.ref (He.ga X.K c)) f = some none) (he : QE X W e m) (hb : attributeBase e f X.env (eval e X.env) = eval e X.env := by rfl) :
    QE X W (.Attribute e f pos) (xfE cs f m) := by
  refine ⟨fun pins s σ H Q I ⟨hd, as, ρ, G, a, q⟩ => ?_⟩
  refine attr_of hb (thn (he.run pins s σ H _ I ⟨hd, as, ρ, G, a, Res.bind q⟩) fun u s1 ⟨x, H1, I1, rx, as1, G1, y, e1, w1, r1, q1⟩ => ?_)
  cases y with
  | ref _ => exact q1.elim
  | pr _ _ => exact q1.elim
  | dat d =>
    cases d with
    | exc c0 d0 =>
      dsimp only at q1
      split at q1
      · rename_i hc
        obtain ⟨hc, hf⟩ := hc
        obtain ⟨T1, hno⟩ := T c0 hc
        subst hf
        cases r1 with
        | @exc _ _ a dx v x1 x2 x3 =>
          obtain rfl : u = Value.ref a := rx
          obtain ⟨oe, od, mA, J, hns, hr, ho⟩ := xo_inst I1.hok (Fz.of x1) (Fz.of x2)
          obtain ⟨od2, ho2, hl⟩ := lookIn_ns hns
          rw [ho] at ho2
          cases ho2
          obtain ⟨z, hz, rz⟩ := RelO.some_of (v := v) (o := mA (fieldOf c0)) (by have := hr (fieldOf c0); simpa using this)
          exact HandSPX.exc_get I1.kIn J T1.ga T1.gg T1.exC (PySem.W.findObj_own T1.hdC hno rfl (by rw [hl, hz])) (handed_of rz) ⟨v, H1, I1.tok _, rz, q1 as1 H1 v (Ext.refl _ _ _ _) w1 x3⟩
      · exact q1.elim
    | _ => exact q1.elim
end
end DL
end L2

/-! DL38: x, *y = e; properties; o.f += e; a new list of two; split, lstrip, int of a text -/
namespace L2
namespace DL
open PySem PySem.Spec PyProof.Rows
variable [HasW]
/-! ### x, *y = e -/
theorem star_low {prog : Program} {w : World} {A : Around} {E : Value → Shared → Prop} {s : Shared} {l : Addr} {items : Array Value} {Q : List Value → Shared → Prop} (hl : s.heap.IsList l items) (hh : A.handled = none) (h1 : 1 ≤ items.size) (hz : items.size ≤ sizeLine)
    (h : ∀ (h' : Heap) (tk : Nat), (∀ b o, s.heap.get? b = some o → h'.get? b = some o) → Q (items.toList.take 1 ++ [.ref h'.objs.size]) { s with heap := h'.push { cls := .type "list", data := .seq (items.toList.drop 1).toArray }, toks := tk }) : wpAny (model prog w) A (unpackItems (.ref l) 2 (some 1)) Q E s := by
  have lt0 : l < s.heap.objs.size := by obtain ⟨o, ho, _⟩ := hl; exact Heap.lt_size ho
  have ne0 : l ≠ s.heap.objs.size := Nat.ne_of_lt lt0
  unfold unpackItems notIterableAtAll
  refine wpAny_bind (wpAny_bind (wpAny_specialOf hl.typeIs slot_list_iter.lookup (wpAny_pure ?_)))
  simp only [Bool.false_eq_true, if_false]
  refine wpAny_bind (wpAny_holding (wpAny_pyIter_list hl (wpAny_bind (wpAny_holding (PySem.W.kun_draw ne0 1 0 _ _ ⟨_, Heap.get?_push_size _ rfl, rfl, rfl⟩ (hl.push _) (by omega) fun g1 it1 same1 => ?_)))))
  have l1 : g1.IsList l items := (hl.push _).extBut same1.extBut ne0
  rw [Nat.zero_add] at it1
  obtain ⟨oi, hoi, _⟩ := id it1
  obtain ⟨ol, hol, _⟩ := id l1
  rw [List.drop_zero, if_neg (show ¬ ((items.toList.take 1).length < 1) by rw [List.length_take, Array.length_toList]; omega)]
  refine wpAny_bind (wpAny_holding (PySem.W.kun_collect (s := { s with heap := g1 }) (T := "list_iterator") (.inr (.inr (.inl rfl))) (Walks.list (A := A.in1) hh s.heap.objs.size l ne0 items) (fun j u st => st.1.typeIs) (k := 1) h1 ⟨it1, l1⟩ (Heap.lt_size hoi) (Heap.lt_size hol) (fun g2 tk keep2 => ?_) hz))
  have ln : (items.toList.drop 1).length = items.size - 1 := by rw [List.length_drop, Array.length_toList]
  show wpAny _ _ (ite ((items.toList.drop 1).length < 0) _ _) _ _ _
  rw [if_neg (Nat.not_lt_zero _)]
  show wpAny _ _ (newList ((items.toList.drop 1).take ((items.toList.drop 1).length - 0)) >>= fun d => pure (items.toList.take 1 ++ [d] ++ (items.toList.drop 1).drop ((items.toList.drop 1).length - 0))) _ _ _
  rw [Nat.sub_zero, List.take_length, List.drop_length]
  refine wpAny_bind (wpAny_newList (wpAny_pure ?_) (by rw [ln]; omega))
  rw [List.append_nil]
  have k2 : ∀ b o, s.heap.get? b = some o → g2.get? b = some o := fun b o e => keep2 b o (Nat.ne_of_lt (Heap.lt_size e)) (same1.extBut b o (Nat.ne_of_lt (Heap.lt_size e)) (Heap.get?_push_of_some _ e))
  exact h g2 tk k2
section
variable {X : Cx} {W : WX} {x y : Str} {i j : Nat} {pos p1 p2 p3 : Pos} {k : Nat} {e : Expr} {m : Ev → M Vl}
def gStar (K : PySem.W.Frag) (i j : Nat) : TG := fun v σ H Q => ∃ a u xs, v = .ref a ∧ SqL K H a (u :: xs) ∧ ∀ c, H c = none → Q ((σ.set i (some u)).set j (some (.ref c))) (upd H c (.lst xs))
theorem pg_star (hc : X.calm = true) (h1 : PG X (.Name x p1) (gName i)) (h2 : PG X (.Name y p2) (gName j)) (hs : (assignEach [.Name x p1, .Starred (.Name y p2) p3] X.env) = [(false, assign (.Name x p1) X.env), (true, assign (.Name y p2) X.env)] := by rfl) :
    PG X (.Tuple [.Name x p1, .Starred (.Name y p2) p3] k pos) (gStar X.K i j) := by
  refine ⟨fun pins s σ H v u Q I r ⟨a, z, xs, ev, sq, hw⟩ => ?_⟩
  subst ev
  cases r
  obtain ⟨its, rv, pl, hz⟩ := I.list sq
  cases rv with
  | @cons _ u0 _ us ru rr =>
  rw [PyProof.Rows.assign_Tuple]
  refine wpAny_bind (wpAny_standAt ?_)
  unfold unpack
  rw [hs]
  refine wpAny_bind (wpAny_holding (star_low (items := (u0 :: us).toArray) pl.isList (I.ok.hd hc) (by simp) (by simpa [rr.length] using hz) fun h' tk keep => ?_))
  have I0 : Inv X pins σ H { s with heap := h', toks := tk } := I.kept keep
  obtain ⟨c, ec⟩ : ∃ c, c = h'.objs.size := ⟨_, rfl⟩
  have nc : H c = none := by rw [ec]; exact I0.hok.fresh (Nat.le_refl _)
  rw [← ec]
  have I1 : Inv X pins σ (upd H c (.lst xs)) { s with heap := h'.push { cls := .type "list", data := .seq ((u0 :: us).toArray.toList.drop 1).toArray }, toks := tk } := I0.laid (a := c) (t' := tk) (fun b o e => Heap.get?_push_of_some _ e) (by rw [ec]; exact Nat.le_refl _) ⟨by simp at hz; omega, us, 0, rr, by rw [ec]; simpa using Heap.get?_push_size _ rfl⟩
  have z1 := h1.run pins _ σ _ z u0 (fun σ' H' => σ' = σ.set i (some z) ∧ H' = upd H c (.lst xs)) I1 ru ⟨rfl, rfl⟩
  show wpAny _ _ (assignInOrder [assign (.Name x p1) X.env, assign (.Name y p2) X.env] [u0, .ref c]) _ _ _
  refine assignInOrder_cons (thn z1 fun _ s2 ⟨σ2, H2, I2, e1, e2⟩ => ?_)
  subst e1 e2
  refine assignInOrder_cons (thn (h2.run pins s2 _ _ (.ref c) (.ref c) (fun σ' H' => σ' = (σ.set i (some z)).set j (some (.ref c)) ∧ H' = upd H c (.lst xs)) I2 rfl ⟨rfl, rfl⟩) fun _ s3 ⟨σ3, H3, I3, e1, e2⟩ => ?_)
  subst e1 e2
  exact assignInOrder_nil ⟨_, _, I3, hw c nc⟩
def starS (i j : Nat) (m : Ev → M Vl) : SD := thenS m fun x ρ G => match listD x G with
  | some (d :: ds) => .nx ((ρ.set i (some (.dat d))).set j (some (.dat (.lst ds)))) G
  | _ => .no
end
/-! ### properties -/
structure OkP (P : Program) (w : World) (K : PySem.W.Frag) (mg : Str → Option Value) (base : Heap) (k : Nat) (c m : Str) (fm : FD) : Prop where
  ex : ∃ fd ps, FnG P w K mg base (L2.CX P w) k (pga K (He.ga K c) m) fd ps (spD K 1 fm) ∧ Binds K fd ps []
def HasP (K : PySem.W.Frag) (c m q : Str) (st : Stmt) : Prop := ∃ fd, FunD K m q (defArgs st) (defBody st) (defScope st) [] [] (pga K (He.ga K c) m) fd
theorem OkP.keep {P : Program} {w : World} {K : PySem.W.Frag} {mg : Str → Option Value} {base : Heap} {c m q : Str} {st : Stmt} {N ps : List Str} {k : Nat} {sd : SD} (h : HasP K c m q st) (S : FnScope N ps (defScope st)) (h1 : ps.length = 1)
    (hb : ∀ (kV doc pm : Value) (an : Option Addr) (cdv ct : Value) (us : List Value), us.length = ps.length → bindArgs (PySem.W.fnOf m q (defArgs st) (defBody st) (defScope st) .none kV doc pm an cdv ct) ⟨us, []⟩ = pure (ps.zip us))
    (hd : ∀ (fd : FuncData) (cdv : Value) (A : Around) (outer : List Env) (s : Shared) (H : Hp) (E : XK), RoomG k (A.deeper (envOfC q (defScope st) s.heap.objs.size (pga K (He.ga K c) m) cdv)) → QSs (cxOf (L2.CX P w) P w K mg base N q (defScope st) (pga K (He.ga K c) m) cdv A outer s H E) (fun cls d _ H' => E cls d H') (defBody st) sd) :
    OkP P w K mg base (k + 1) c m (runK N.length sd) := by
  obtain ⟨fd, F⟩ := h
  refine ⟨fd, ps, ?_, F.bindsN hb⟩
  have z := okK F S fun cdv A outer s H E hr => hd fd cdv A outer s H E hr
  rw [h1] at z
  exact z
def propE (c : Str) (fm : FD) (mo : Ev → M Vl) : Ev → M Vl := fun ρ => andThen (mo ρ) fun x G => match clsOf x G with
  | some (c', _) => if c' = c then (match fm [x] G with
    | .ok y G' => .ok y G'
    | _ => .no) else .no
  | none => .no
section
variable {X : Cx} {W : WX} {pos : Pos} {o : Expr} {mo : Ev → M Vl} {c m : Str} {j k : Nat} {fm : FD}
theorem RoomG.in1 {k : Nat} {A : Around} (h : RoomG (k + 1) A) : RoomG k A.in1 := ⟨h.r.in1, h.g⟩
theorem prop_low {pins : List (Addr × Obj)} {σ : St} {H : Hp} {s : Shared} {Q : VK} {b : Bool} {E' : Value → Shared → Prop} {C p g a dx : Addr} {fs : List (Str × V)} {f : Str} {fd : FuncData} {ps : List Str} {sp : Sp} (I : Inv X pins σ H s) (ea : H a = some (.ins C dx fs)) (c : Cls X.K C) (hp : PropOf X.K C f p g)
    (F : FnG X.prog X.w X.K X.mg X.base (L2.CX X.prog X.w) k g fd ps sp) (hr : RoomG (k + 1) X.A) (hb : Binds X.K fd ps []) (h : sp [.ref a] H Q (fun _ _ _ => False)) :
    wpAny (model X.prog X.w) X.A (getAttr (.ref a) f b) (EP X pins σ Q) E' s := by
  obtain ⟨mA, O, _, _, _, _⟩ := ins_get I.hok ea
  obtain ⟨od, J, _⟩ := O.look
  obtain ⟨rest, hrec⟩ := hp.rec_
  have I1 := I.tok (s.toks + 1)
  have ln : [Value.ref a].length = ps.length := F.len _ _ _ _ h
  have c0 : (PySem.W.clsIn X.K C).isSome = true := by obtain ⟨cd, z, _⟩ := PySem.W.any_some c.hd; rw [z]; rfl
  have bi := hb { s with toks := s.toks + 1 } [Value.ref a] I1.kIn (by rw [List.append_nil]; exact ln)
  rw [List.append_nil] at bi
  refine PySem.W.get_bind I.kIn J (PySem.W.plainGet_of (c.get f)).1 (PySem.W.findObj_data c0 hp.at_ hp.get hp.tak) (PySem.W.plainGet_of (c.get f)).2 (wpAny_call (PySem.W.prop_get (s := { s with toks := s.toks + 1 }) I.kIn hrec
    (codeAny_mono (F.run X.A.in1 X.stack { s with toks := s.toks + 1 } H ⟨[.ref a], []⟩ [.ref a] [V.ref a] Q _ hr.in1 I1.env0.in1 bi (.cons rfl .nil) h) fun r s' hq => ?_)))
  cases r with
  | error er => exact (cxF hq).elim
  | ok fl =>
    cases fl with
    | ret u => obtain ⟨v, H', I3, rv, q3⟩ := I1.after hq; show wpAny _ _ (handedOut u) _ _ _; rw [PySem.W.handedOut_of (handed_of rv)]; exact wpAny_pure ⟨v, H', I3, rv, q3⟩
    | next => exact False.elim hq
    | brk => exact False.elim hq
    | cont => exact False.elim hq
theorem q_prop (O : OkP X.prog X.w X.K X.mg X.base k c m fm) (hcl : Cls X.K (He.ga X.K c)) (hp : PropOf X.K (He.ga X.K c) m (He.ma X.K (He.ga X.K c) m) (pga X.K (He.ga X.K c) m)) (hr : RoomG j X.A) (hk : k + 1 ≤ j) (ho : QE X W o mo)
    (hab : attributeBase o m X.env (eval o X.env) = eval o X.env := by rfl) : QE X W (.Attribute o m pos) (propE c fm mo) := by
  obtain ⟨fd, ps, F, B⟩ := O.ex
  refine ⟨fun pins s σ H Q I ⟨hd, as, ρ, G, a, q⟩ => ?_⟩
  refine attr_of hab (thn (ho.run pins s σ H _ I ⟨hd, as, ρ, G, a, Res.bind q⟩) fun u s1 ⟨x, H1, I1, rx, as1, G1, y, e1, w1, r1, q1⟩ => ?_)
  cases ek : clsOf y G1 with
  | none => simp only [ek] at q1; exact q1.elim
  | some p =>
    obtain ⟨c', fs⟩ := p
    simp only [ek] at q1
    split at q1
    · rename_i hcc
      subst hcc
      obtain ⟨a, dx, vs, ev, h1, h2, h3⟩ := clsOf_rel w1 r1 ek
      subst ev
      cases rx
      refine prop_low I1 h1 hcl hp F (hr.mono hk) B ⟨rfl, hd, as1, G1, [y], w1, .cons r1 .nil, ?_⟩
      cases ef : fm [y] G1 with
      | ok z G' => rw [ef] at q1; exact q1
      | ex _ _ _ => rw [ef] at q1; exact q1.elim
      | no => rw [ef] at q1; exact q1.elim
    · exact q1.elim
end
/-! ### o.f += e, ints -/
def augF (cs : List Str) (f : Str) (mo mv : Ev → M Vl) : SD := thenS mo fun x ρ G => match x with
  | .ref i => (match G[i]? with
    | some (.ins c fs) => if c ∈ cs then (match fs.lookup f with
      | some (.dat (.int n)) => thenS mv (fun y ρ G => match y with
        | .dat (.int k) => (match G[i]? with
          | some (.ins c' fs') => if c' = c ∧ fs'.length < 1000 then .nx ρ (G.set i (.ins c' (putFD f (.dat (.int (n + k))) fs'))) else .no
          | _ => .no)
        | _ => .no) ρ G
      | _ => .no) else .no
    | _ => .no)
  | _ => .no
section
variable {X : Cx} {W : WX} {pos tpos : Pos} {o value : Expr} {m mv : Ev → M Vl} {f : Str} {cs : List Str}
theorem q_augF (hc : ∀ c ∈ cs, Cls X.K (He.ga X.K c) ∧ NoAttr X.K (He.ga X.K c) f) (ho : QE X W o m) (hv : QE X W value mv) : QS X W (.AugAssign (.Attribute o f tpos) .Add value pos) (augF cs f m mv) :=
  (ps_fldaug ho hv in_add).imp fun Z σ H ⟨hd, as, ρ, G, a, q⟩ => ⟨hd, as, ρ, G, a, (thenS_mid a q).mono fun x H1 ⟨as1, G1, xd, e1, a1, rx, q1⟩ => by
    cases xd with
    | dat d => exact q1.elim
    | pr _ _ => exact q1.elim
    | ref i =>
      obtain ⟨p, hp, rfl⟩ := rx
      simp only at q1
      cases eg : G1[i]? with
      | none => simp only [eg] at q1; exact q1.elim
      | some go =>
        cases go with
        | ins c fs =>
          simp only [eg] at q1
          split at q1
          · rename_i hm
            obtain ⟨dx, vs, h1, h2, h3⟩ := a1.wd.at eg hp
            have lk := lookup_rel (β := Unit) (f := f) h2 h3
            cases el : fs.lookup f with
            | none => simp only [el] at q1; exact q1.elim
            | some z =>
              simp only [el] at q1
              cases z with
              | ref _ => exact q1.elim
              | pr _ _ => exact q1.elim
              | dat zd =>
                cases zd with
                | int n =>
                  dsimp only at q1
                  rw [el] at lk
                  cases ev : vs.lookup f with
                  | none => rw [ev] at lk; exact lk.elim
                  | some u =>
                    rw [ev] at lk
                    have lk' : RelD X.K (Fz hd as1 G1 H1) (.int n) u := lk
                    cases lk'
                    refine ⟨p, _, dx, vs, .int n, rfl, h1, (hc c hm).1, (hc c hm).2, ev, hd, as1, ρ, G1, a1, (thenS_mid a1 q1).mono fun y H2 ⟨as2, G2, yd, e2, a2, ry, q2⟩ => ?_⟩
                    cases yd with
                    | ref _ => exact q2.elim
                    | pr _ _ => exact q2.elim
                    | dat yd =>
                      cases yd with
                      | int k =>
                        dsimp only at q2
                        have ry' : RelD X.K (Fz hd as2 G2 H2) (.int k) y := ry
                        cases ry'
                        refine ⟨n, k, rfl, rfl, ?_⟩
                        cases eg2 : G2[i]? with
                        | none => simp only [eg2] at q2; exact q2.elim
                        | some go2 =>
                          cases go2 with
                          | ins c' fs' =>
                            simp only [eg2] at q2
                            split at q2
                            · rename_i hcc
                              obtain ⟨hcc, hl⟩ := hcc
                              subst hcc
                              obtain ⟨dx', vs', g1, g2, g3⟩ := a2.wd.at eg2 (pre_get e2.pre hp)
                              obtain ⟨k1, k2⟩ := putFD_rel (f := f) (P := RelVl X.K as2 (Fz hd as2 G2 H2)) (y := .dat (.int (n + k))) (u := .int (n + k)) (RelD.int _) g2 g3
                              obtain ⟨w3, e3⟩ := a2.wd.upd (go' := .ins c' (putFD f (.dat (.int (n + k))) fs')) (o' := .ins (He.ga X.K c') dx' (putF f (.int (n + k)) vs')) (pre_get e2.pre hp) eg2 rfl rfl ⟨dx', _, upd_same, k1, k2⟩
                              have hlen : vs'.length = fs'.length := by have := congrArg List.length g2; simp only [List.length_map] at this; exact this.symm
                              exact ⟨dx', vs', g1, by omega, q2 as2 _ σ e3 (a2.ext e3 w3)⟩
                            · exact q2.elim
                          | _ => simp only [eg2] at q2; exact q2.elim
                      | _ => exact q2.elim
                | _ => exact q1.elim
          · exact q1.elim
        | _ => simp only [eg] at q1; exact q1.elim⟩
end
/-! ### texts -/
section
variable {X : Cx}
/-- z.split(b) -/
def splitL (z b : Str) : List Str := if b.cps.toList.isEmpty = false ∧ b.cps.toList.all (fun c => Nat.blt c 256) = true then (TL.spl b.cps.toList 0 [] z.cps.toList).map fun l => ⟨l.toArray⟩ else Txt.split z b
theorem splitL_eq (z b : Str) : splitL z b = Txt.split z b := by
  unfold splitL
  split
  · rename_i h
    obtain ⟨h1, h2⟩ := h
    have e := SX.split_S (a := z.cps.toList) (b := b.cps.toList) (fun q => by rw [q] at h1; cases h1) (List.all_eq_true.mpr fun c hc => decide_eq_true (by have := List.all_eq_true.mp h2 c hc; simpa [Nat.blt_eq] using this))
    exact e.symm
  · rfl
def splitO : Vl → OA := fun y a G => match y, a with
  | .dat (.str z), [.dat (.str b)] => if b.length ≠ 0 ∧ z.length + 2 ≤ sizeLine then some (.dat (.lst ((splitL z b).map .str)), G) else none
  | _, _ => none
def lstripO : Vl → OA := fun y a G => match y, a with
  | .dat (.str z), [.dat (.str b)] => if z.length ≤ sizeLine then some (.dat (.str (Txt.lstripChars z b)), G) else none
  | _, _ => none
theorem strs_rel {K : PySem.W.Frag} {F : Hp} : ∀ ys : List Str, RelDs K F (ys.map D.str) (ys.map V.str)
  | [] => .nil
  | y :: ys => .cons (.str y) (strs_rel ys)
theorem ml_split : MtR X "str.split" (lowM X.K splitO) := MtL.of mt_split fun hd as G H y a x xs Q w ry ra q => by
  unfold splitO at q
  split at q
  · rename_i z b
    split at q
    · rename_i hz
      cases ry
      cases ra with
      | cons r1 rn =>
      cases rn
      cases (show RelD X.K (Fz hd as G H) (.str b) _ from r1)
      rw [splitL_eq] at q
      exact ⟨z, b, rfl, rfl, by simpa using hz.1, hz.2, fun p hp => ResO.new w q hp fun F k f => .lst (.inl f) (strs_rel _)⟩
    · exact q.elim
  · exact q.elim
theorem ml_lstrip : MtR X "str.lstrip" (lowM X.K lstripO) := MtL.of mt_lstripChars fun hd as G H y a x xs Q w ry ra q => by
  unfold lstripO at q
  split at q
  · rename_i z b
    split at q
    · rename_i hz
      cases ry
      cases ra with
      | cons r1 rn =>
      cases rn
      cases (show RelD X.K (Fz hd as G H) (.str b) _ from r1)
      exact ⟨z, b, rfl, rfl, hz, ResO.dat w (RelD.str _) q⟩
    · exact q.elim
  · exact q.elim
def intSO : Vl → Gh → Option (Vl × Gh) := fun x G => match x with
  | .dat (.str z) => if z.length ≤ 640 then (PySem.intText? z).map fun n => (.dat (.int n), G) else none
  | _ => none
theorem cl_intS : CallL X (.type "int") (oneO intSO) := one_of call_int_str fun hd as G H a x Q w ra q => by
  unfold intSO at q
  split at q
  · rename_i z
    split at q
    · rename_i hz
      cases ra
      cases e : PySem.intText? z with
      | none => rw [e] at q; exact q.elim
      | some n => rw [e] at q; exact ⟨z, n, rfl, e, hz, ResO.dat w (RelD.int _) q⟩
    · exact q.elim
  · exact q.elim
end
end DL
end L2

/-! DL39: makers under a try; x, *y = e; a new list of two; raise by a promise -/
namespace L2
namespace DL
open PySem PySem.Spec PyProof.Rows
variable [HasW]
section
variable {X : Cx} {CX : CXT} {k : Nat} {f C : Addr} {fd : FuncData} {ps : List Str} {sp : Sp} {x : Str} {p pos : Pos} {e : Expr} {es : List Expr} {t : TA}
theorem pe_makeW {E : St → XK} (M : Mk X.K C f) (F : FnG X.prog X.w X.K X.mg X.base CX k f fd ps sp) (hr : RoomG (k + 1) X.A) (hg : Gl X x) (hm : X.mg x = some (.ref C)) (hb : Binds X.K fd ps []) (hx : ∀ σ, PassesAt CX X σ (E σ))
    (ha : PA X (e :: es) t) (hdb : (x == ("__debug__" : Str)) = false := by decide) (st : starEach (e :: es) X.env = (false, eval e X.env) :: starEach es X.env := by rfl) (np : (backTo pos (starEach es X.env)).any (·.1) = false := by rfl) :
    PE X (.Call (.Name x p) (e :: es) [] pos) (fun σ H Q => tMake C sp [] (E σ) t σ H Q) := by
  refine ⟨fun pins s σ H Q I h => wpAny_Call_Name_kw (ld_glob I hg hm (PySem.W.callWith_K (h₀ := X.base) I.ok.mod.kin M.kp (thn (ha.run pos pins s σ H _ I h) fun us s1 ⟨vs, H1, I1, rv, q⟩ => ⟨I1.kIn, ?_⟩) st np) hdb)⟩
  obtain ⟨n1, en1⟩ : ∃ n1, n1 = s1.heap.objs.size + 1 := ⟨_, rfl⟩
  have hq := q (s1.heap.objs.size + 1) s1.heap.objs.size (I1.hok.fresh (Nat.le_succ _)) (I1.hok.fresh (Nat.le_refl _)) (Nat.ne_of_lt (Nat.lt_succ_self _))
  rw [List.append_nil] at hq
  have J := Inv.made (C := C) I1
  have rv2 : Vals (V.ref (s1.heap.objs.size + 1) :: vs) (Value.ref (s1.heap.objs.size + 1) :: us) := .cons rfl rv
  have bi := hb { s1 with heap := (s1.heap.push PySem.W.emptyDict).push (PySem.W.instObj C s1.heap.objs.size) } (Value.ref (s1.heap.objs.size + 1) :: us) J.kIn (by rw [List.append_nil]; exact rv2.length.symm.trans (F.len _ _ _ _ hq))
  rw [List.append_nil] at bi
  refine wpAny_call (make_map (f := f) I1.kIn M.makes M.init (beq_iff_eq.mp M.fn) (codeAny_mono (F.run _ X.stack _ _ ⟨Value.ref (s1.heap.objs.size + 1) :: us, []⟩ _ _ _ _ (hr.make C us []) (J.env0.make C us []) bi rv2 hq) fun z s2 hz => ?_))
  cases z with
  | error e => exact hx σ pins _ _ e s2 J hz
  | ok fl =>
    cases fl with
    | ret u => obtain ⟨v, H3, I3, ru, ev, q3⟩ := J.after hz; subst ev; exact ⟨ru, ⟨V.ref (s1.heap.objs.size + 1), H3, I3, rfl, q3⟩⟩
    | next => exact hz.elim
    | brk => exact hz.elim
    | cont => exact hz.elim
end
section
variable {X : Cx} {W : WX} {pos p : Pos} {e : Expr} {es : List Expr} {r : Ev → M (List Vl)} {c : Str} {j k np : Nat} {fm : FD} {keep : Bool}
theorem q_makeW (O : OkM X.prog X.w X.K X.mg X.base k c "__init__" np fm) (M : Mk X.K (He.ga X.K c) (He.ma X.K (He.ga X.K c) "__init__")) (hr : RoomG j X.A) (hk : k + 1 ≤ j) (hg : Gl X c) (hmg : X.mg c = some (.ref (He.ga X.K c))) (tk : Takes X W)
    (ha : QA X W (e :: es) r) (hdb : (c == ("__debug__" : Str)) = false := by decide) (he : starEach (e :: es) X.env = (false, eval e X.env) :: starEach es X.env := by rfl) (hpl : (backTo pos (starEach es X.env)).any (·.1) = false := by rfl) :
    QE X W (.Call (.Name c p) (e :: es) [] pos) (makeA c np fm keep r) := by
  obtain ⟨fd, ps, F, B⟩ := O.ex
  refine (pe_makeW (E := WE W) M F (hr.mono hk) hg hmg B (fun σ => passAt tk σ) ha hdb he hpl).imp fun σ H Q ⟨hd, as, ρ, G, a, q⟩ => ⟨hd, as, ρ, G, a, (ResA.bind q).mono fun us H1 ⟨as1, G1, xs, e1, w1, r1, q1⟩ => ?_⟩
  intro x dx hx hdx hne
  rw [List.append_nil]
  obtain ⟨w2, e2, _⟩ := w1.new (.own x) hdx
  have hx2 : upd H1 dx (.own x) x = none := by rw [upd_ne (Ne.symm hne)]; exact hx
  obtain ⟨w3, e3⟩ := w2.cellNew (go := .ins c []) (o := .ins (He.ga X.K c) dx []) hx2 (fun F k => ⟨dx, [], upd_same, rfl, .nil⟩) rfl
  have e13 := e2.trans e3
  have rx : RelVl X.K (as1 ++ [x]) (Fz hd (as1 ++ [x]) (G1 ++ [.ins c []]) (upd (upd H1 dx (.own x)) x (.ins (He.ga X.K c) dx []))) (.ref G1.length) (.ref x) := ⟨x, by rw [← w1.len]; simp, rfl⟩
  refine callAll_ok (W := W) (σ := σ) w3 (.cons rx (r1.ext e13)) ?_
  unfold newAll at q1
  cases ec : callAll np fm (.ref G1.length :: xs) (G1 ++ [.ins c []]) with
  | no => rw [ec] at q1; exact q1.elim
  | ex cc d G2 =>
    rw [ec] at q1
    intro as4 H4 dd e4 w4 t4
    cases keep with
    | true => exact q1 as4 H4 dd (e13.trans e4) w4 t4
    | false => exact leaveX_ok w1.len (e13.trans e4) w4 t4 q1
  | ok y G2 =>
    rw [ec] at q1
    intro as4 H4 v e4 w4 r4
    cases y with
    | ref _ => exact q1.elim
    | pr _ _ => exact q1.elim
    | dat d =>
      cases d with
      | non =>
        cases r4
        refine ⟨rfl, ?_⟩
        cases keep with
        | true => exact q1 as4 H4 (.ref x) (e13.trans e4) w4 (rx.ext e4)
        | false => exact leaveF_ok w1.len (e13.trans e4) w4 (rx.ext e4) q1
      | _ => exact q1.elim
end
/-! ### x, *y = e -/
section
variable {X : Cx} {W : WX} {x y : Str} {i j n : Nat} {pos pos' p1 p2 p3 : Pos} {e : Expr} {m : Ev → M Vl}
theorem q_star (hc : X.calm = true) (nd : X.N.Nodup) (at_i : X.N[i]? = some x) (at_j : X.N[j]? = some y) (hi : X.env.kindOf x = some .local) (hj : X.env.kindOf y = some .local) (he : QE X W e m)
    (hs : swapsWithSole [.Tuple [.Name x p1, .Starred (.Name y p2) p3] n pos'] e pos.line X.env = pure false := by rfl) (hw : swappedStores [.Tuple [.Name x p1, .Starred (.Name y p2) p3] n pos'] e X.env = pure none := by rfl)
    (h1 : (assignEach [.Tuple [.Name x p1, .Starred (.Name y p2) p3] n pos'] X.env).map (·.2) = [assign (.Tuple [.Name x p1, .Starred (.Name y p2) p3] n pos') X.env] := by rfl)
    (h2 : (assignEach [.Name x p1, .Starred (.Name y p2) p3] X.env) = [(false, assign (.Name x p1) X.env), (true, assign (.Name y p2) X.env)] := by rfl) :
    QS X W (.Assign [.Tuple [.Name x p1, .Starred (.Name y p2) p3] n pos'] e pos) (starS i j m) :=
  (ps_asg he (pg_star hc (pg_name nd at_i (.inl hi) (.inr hi)) (pg_name nd at_j (.inl hj) (.inr hj)) h2) hs hw h1).imp fun Z σ H ⟨hd, as, ρ, G, a, q⟩ => ⟨hd, as, ρ, G, a, (thenS_mid a q).mono fun v H1 ⟨as1, G1, z, e1, a1, r1, q1⟩ => by
    cases el : listD z G1 with
    | none => simp only [el] at q1; exact q1.elim
    | some l =>
      cases l with
      | nil => simp only [el] at q1; exact q1.elim
      | cons d ds =>
        simp only [el] at q1
        obtain ⟨p, xs, ev, h3, h4⟩ := listD_rel a1.wd r1 el
        cases h4 with
        | @cons _ u _ us hu hus =>
        refine ⟨p, u, us, ev, .inl h3, fun c hc => ?_⟩
        obtain ⟨w2, e2, f2⟩ := a1.wd.new (.lst us) hc
        have a2 := (a1.ext e2 w2)
        have r2 : RelVl X.K as1 (Fz hd as1 G1 (upd H1 c (.lst us))) (.dat (.lst ds)) (.ref c) := RelD.lst (.inl f2) (hus.mono e2.keep)
        have r3 : RelVl X.K as1 (Fz hd as1 G1 (upd H1 c (.lst us))) (.dat d) u := RelD.mono e2.keep hu
        exact q1 as1 _ _ e2 ((a2.set (j := i) r3).set (j := j) r2)⟩
end
/-! ### a + b, a new list that is a cell -/
def addC : O2 := fun x y G => match listD x G, listD y G with
  | some a, some b => if a.length + b.length ≤ sizeLine then some (.ref G.length, G ++ [.lst ((a ++ b).map .dat)]) else none
  | _, _ => none
section
variable {X : Cx}
theorem ol_addC : OpL X (binaryOp .Add) addC := by
  intro pins s σ H x y v u Q hd as G a b I rx ry w ra rb h
  unfold addC at h
  cases ea : listD a G with
  | none => simp only [ea] at h; exact h.elim
  | some ds =>
    cases eb : listD b G with
    | none => simp only [ea, eb] at h; exact h.elim
    | some es =>
      simp only [ea, eb] at h
      by_cases hz : ds.length + es.length ≤ sizeLine
      · rw [if_pos hz] at h
        obtain ⟨l, xs, rfl, hl, hr⟩ := listD_rel w ra ea
        obtain ⟨l2, ys, rfl, hl2, hr2⟩ := listD_rel w rb eb
        cases rx
        cases ry
        obtain ⟨z1, its, n, rv, ho⟩ := (show ObjOk X.prog X.w H s.heap l (.lst xs) from hl.ok I.hok)
        obtain ⟨z2, its2, n2, rv2, ho2⟩ := (show ObjOk X.prog X.w H s.heap l2 (.lst ys) from hl2.ok I.hok)
        have n1 := rv.length; have n2' := rv2.length; have n3 := hr.length; have n4 := hr2.length
        refine PySem.P.add_list ho ho2 ?_ (by rw [List.size_toArray, List.size_toArray]; omega)
        rw [show its.toArray ++ its2.toArray = (its ++ its2).toArray by simp]
        refine ⟨.ref _, _, I.lnew (t' := s.toks) (rv.append rv2) (by rw [List.length_append]; omega), rfl, ?_⟩
        obtain ⟨w2, e2⟩ := w.cellNew (p := s.heap.objs.size) (go := .lst ((ds ++ es).map .dat)) (o := .lst (xs ++ ys)) I.fresh (fun F k => ⟨_, upd_same, rels_map (RelDs.mono k (hr.append hr2))⟩) rfl
        exact h _ _ (.ref s.heap.objs.size) e2 w2 ⟨_, by rw [← w.len]; simp, rfl⟩
      · rw [if_neg hz] at h
        exact h.elim
end
/-! ### raise by a promise -/
structure OkX (P : Program) (w : World) (K : PySem.W.Frag) (mg : Str → Option Value) (base : Heap) (k : Nat) (c : Str) : Prop where
  T : OexC K (He.ga K c)
  iC : PySem.W.findIn K (.ref (He.ga K c)) "__init__" = some (some (.ref (He.ma K (He.ga K c) "__init__")))
  tI : PySem.W.typeIn K (.ref (He.ma K (He.ga K c) "__init__")) = some (.type "function")
  ex : ∃ fd par, FnG P w K mg base (L2.CX P w) k (He.ma K (He.ga K c) "__init__") fd ["self", par] (spX (He.ga K c) (fieldOf c)) ∧ Binds K fd ["self", par] []
  gl : mg c = some (.ref (He.ga K c))
section
variable {X : Cx} {W : WX} {x : Str} {k j : Nat} {e : Expr} {m : Ev → M (List Vl)} {p pos pos2 : Pos}
theorem q_raiseX (O : OkX X.prog X.w X.K X.mg X.base k x) (hc : X.calm = true) (tk : Takes X W) (hr : RoomG j X.A) (hkj : k + 1 ≤ j) (hg : Gl X x) (ha : QA X W [e] m)
    (hdb : (x == ("__debug__" : Str)) = false := by decide) (he : starEach [e] X.env = (false, eval e X.env) :: starEach [] X.env := by rfl) : QS X W (.Raise (some (.Call (.Name x p) [e] [] pos)) none pos2) (raiseS x m) := by
  obtain ⟨fd, par, F, B⟩ := O.ex
  exact q_raise hc tk O.T O.iC O.tI F hr hkj B hg O.gl ha hdb he
end
end DL
end L2

/-! DL40: sets of texts that are made and read at once -/
namespace L2
namespace DL
open PySem PySem.Spec PyProof.Rows
variable [HasW]
def eqS (a b : Str) : Bool := decide (a = b)
def addS (l : List Str) (x : Str) : List Str := if l.any (eqS x) = true then l else l ++ [x]
def dedupS (l : List Str) : List Str := l.foldl addS []
def leS (a b : Str) : Bool := decide (a.cps.toList ≤ b.cps.toList)
def insS (x : Str) : List Str → List Str
  | [] => [x]
  | y :: r => if leS x y = true then x :: y :: r else y :: insS x r
def sortS : List Str → List Str
  | [] => []
  | x :: r => insS x (sortS r)
def setStrs (x : Vl) (G : Gh) : Option (List Str) := match (listD x G).bind strsOf with
  | some l => if l.length < 64 then some (dedupS l) else none
  | none => none
def lenSetE (m : Ev → M Vl) : Ev → M Vl := fun ρ => andThen (m ρ) fun x G => match setStrs x G with
  | some l => .ok (.dat (.int l.length)) G
  | none => .no
def sortSetE (m : Ev → M Vl) : Ev → M Vl := fun ρ => andThen (m ρ) fun x G => match setStrs x G with
  | some l => .ok (.dat (.lst ((sortS l).map .str))) G
  | none => .no
/-! ### order -/
theorem any_eqS {x : Str} {l : List Str} : l.any (eqS x) = true ↔ x ∈ l := by
  rw [List.any_eq_true]
  constructor
  · rintro ⟨y, hy, h⟩
    rw [of_decide_eq_true h]
    exact hy
  · intro h
    exact ⟨x, h, decide_eq_true rfl⟩
theorem addS_nodup {l : List Str} {x : Str} (h : l.Nodup) : (addS l x).Nodup := by
  unfold addS
  split
  · exact h
  · rename_i hn
    rw [any_eqS] at hn
    exact List.nodup_append.mpr ⟨h, by simp, fun a ha b hb => by rw [List.mem_singleton.mp hb]; exact fun e => hn (e ▸ ha)⟩
theorem insS_perm (x : Str) : ∀ l : List Str, (insS x l).Perm (x :: l)
  | [] => .refl _
  | y :: r => by
    unfold insS
    split
    · exact .refl _
    · exact ((insS_perm x r).cons y).trans (.swap x y r)
theorem sortS_perm : ∀ l : List Str, (sortS l).Perm l
  | [] => .refl _
  | x :: r => (insS_perm x (sortS r)).trans ((sortS_perm r).cons x)
theorem leS_total (a b : Str) (h : leS a b = false) : leS b a = true := by
  unfold leS at h ⊢
  have h1 := of_decide_eq_false h
  exact decide_eq_true (by
    rcases List.le_total a.cps.toList b.cps.toList with z | z
    · exact absurd z h1
    · exact z)
theorem leS_trans {a b c : Str} (h1 : leS a b = true) (h2 : leS b c = true) : leS a c = true := by
  unfold leS at h1 h2 ⊢
  exact decide_eq_true (List.le_trans (of_decide_eq_true h1) (of_decide_eq_true h2))
theorem leS_anti {a b : Str} (h1 : leS a b = true) (h2 : leS b a = true) : a = b := by
  unfold leS at h1 h2
  have e := List.le_antisymm (of_decide_eq_true h1) (of_decide_eq_true h2)
  cases a with
  | mk t => cases b with | mk u => cases t; cases u; simp only at e; subst e; rfl
theorem insS_sorted {x : Str} : ∀ {l : List Str}, l.Pairwise (fun a b => leS a b = true) → (insS x l).Pairwise (fun a b => leS a b = true)
  | [], _ => by unfold insS; simp
  | y :: r, h => by
    obtain ⟨h1, h2⟩ := List.pairwise_cons.mp h
    unfold insS
    split
    · rename_i hx
      exact List.pairwise_cons.mpr ⟨fun z hz => by
        rcases List.mem_cons.mp hz with e | e
        · rw [e]; exact hx
        · exact leS_trans hx (h1 z e), h⟩
    · rename_i hx
      refine List.pairwise_cons.mpr ⟨fun z hz => ?_, insS_sorted h2⟩
      rcases List.mem_cons.mp ((insS_perm x r).mem_iff.mp hz) with e | e
      · rw [e]; exact leS_total x y (by simpa using hx)
      · exact h1 z e
theorem sortS_sorted : ∀ l : List Str, (sortS l).Pairwise (fun a b => leS a b = true)
  | [] => .nil
  | x :: r => insS_sorted (sortS_sorted r)
theorem sorted_eq : ∀ {l l' : List Str}, l.Perm l' → l.Pairwise (fun a b => leS a b = true) → l'.Pairwise (fun a b => leS a b = true) → l = l'
  | [], l', p, _, _ => (List.nil_perm.mp p).symm
  | x :: r, [], p, _, _ => by have := p.length_eq; simp at this
  | x :: r, y :: r', p, h, h' => by
    obtain ⟨h1, h2⟩ := List.pairwise_cons.mp h
    obtain ⟨h1', h2'⟩ := List.pairwise_cons.mp h'
    have e : x = y := by
      rcases List.mem_cons.mp (p.mem_iff.mp (List.mem_cons_self ..)) with e | e
      · exact e
      · rcases List.mem_cons.mp (p.mem_iff.mpr (List.mem_cons_self ..)) with e' | e'
        · exact e'.symm
        · exact leS_anti (h1 y e') (h1' x e)
    subst e
    rw [sorted_eq (List.Perm.cons_inv p) h2 h2']
/-- the library's sort of texts -/
theorem merge_sortS (l : List Str) : l.mergeSort leS = sortS l :=
  sorted_eq ((List.mergeSort_perm l leS).trans (sortS_perm l).symm) (List.pairwise_mergeSort (le := leS) (fun a b c h1 h2 => leS_trans h1 h2) (fun a b => by cases h : leS a b with | true => rfl | false => rw [leS_total a b h]; rfl) l) (sortS_sorted l)
theorem strsOf_map : ∀ {l : List D} {ss : List Str}, strsOf l = some ss → l = ss.map .str
  | [], ss, h => by unfold strsOf at h; cases h; rfl
  | d :: l, ss, h => by
    cases d with
    | str x =>
      unfold strsOf at h
      cases e : strsOf l with
      | none => rw [e] at h; cases h
      | some r => rw [e] at h; cases h; rw [strsOf_map e]; rfl
    | _ => unfold strsOf at h; cases h
theorem pys_strs : ∀ ss : List Str, pys (ss.map .str) = some (ss.map PyData.str)
  | [] => by unfold pys; rfl
  | s :: ss => by
    show pys (.str s :: ss.map .str) = _
    unfold pys py
    simp only [pys_strs ss]
    rfl
theorem sortD_strs (ss : List Str) : sortD (ss.map .str) = some ((sortS ss).map .str) := by
  unfold sortD
  rw [pys_strs]
  have ez : ((ss.map D.str).zip (ss.map PyData.str)) = ss.map fun s => (D.str s, PyData.str s) := by
    induction ss with
    | nil => rfl
    | cons s ss ih => simp only [List.map_cons, List.zip_cons_cons, ih]
  have c1 : (allAlikeB (ss.map PyData.str) && sortableB (ss.map PyData.str) && shallowB (ss.map PyData.str)) = true := by
    rw [Bool.and_eq_true, Bool.and_eq_true]
    refine ⟨⟨?_, ?_⟩, ?_⟩
    · unfold allAlikeB
      simp [List.all_eq_true, PySem.W.alike]
    · unfold sortableB
      rw [Bool.or_eq_true]
      right
      simp [List.all_eq_true]
    · unfold shallowB
      simp [List.all_eq_true, PyData.depth]
  simp only [c1, if_true]
  rw [ez, ← List.map_mergeSort (r := leS) (s := PySem.W.dataLe false fun p : D × PyData => p.2) (f := fun s => (D.str s, PyData.str s)) (fun a _ b _ => ?_), merge_sortS, List.map_map]
  · rfl
  · have e := congrFun (congrFun (PySem.W.dataLe_str (β := Str) id) a) b
    exact e.symm
def sortAO : Vl → Gh → Option (Vl × Gh) := fun x G => match (listD x G).bind strsOf with
  | some ss => some (.dat (.lst ((sortS ss).map .str)), G)
  | none => sortedO x G
section
variable {X : Cx}
theorem cl_sortA (hu : X.A.units + 64 < cLine) : CallL X (.builtin "sorted") (oneO sortAO) := by
  intro pins s σ H xs us Q hd as G a I rv w ra h
  unfold oneO at h
  split at h
  · rename_i x
    have key : sortAO x G = sortedO x G := by
      unfold sortAO
      cases e : (listD x G).bind strsOf with
      | none => rfl
      | some ss =>
        obtain ⟨l, h1, h2⟩ := Option.bind_eq_some_iff.mp e
        unfold sortedO
        rw [h1, strsOf_map h2]
        simp only [Option.bind_some, sortD_strs]
        rfl
    rw [key] at h
    exact cl_sorted hu pins s σ H xs us Q hd as G [x] I rv w ra h
  · exact h.elim
end
/-! ### a set of texts in the heap -/
def kyS (e : Int × Value) : Str := match e.2 with
  | .str x _ => x
  | _ => Str.empty
def GoodS (w : World) (e : Int × Value) : Prop := ∃ x tk, e.2 = Value.str x tk ∧ e.1 = hashStr w x
def newSet (w : World) : Obj := { cls := .type "set", dict := none, data := .set #[] 0 (.fresh 0 0 (!w.params.followText "set-order")) }
/-- at a: the set of the texts l -/
def SetS (w : World) (h : Heap) (a : Addr) (l : List Str) : Prop :=
  ∃ o es ep t, h.get? a = some o ∧ o.ExactSet ∧ o.data = .set es ep t ∧ (∀ e ∈ es.toList, GoodS w e) ∧ (es.toList.map kyS).Perm l ∧ l.Nodup ∧
    es.size < scanBound ∧ t.fits es.size = true ∧ Ris t.place.toList ∧ (w.params.followText "set-order" = true ∨ t.led = true)
section
variable {P : Program} {w : World} {A : Around} {E : Value → Shared → Prop} {s : Shared} {a : Addr} {l : List Str}
theorem SetS.keeps {h h' : Heap} (R : SetS w h a l) (k : ∀ o, h.get? a = some o → h'.get? a = some o) : SetS w h' a l := let ⟨o, es, ep, t, ho, r⟩ := R; ⟨o, es, ep, t, k o ho, r⟩
theorem goodS_elems {m : List (Int × Value)} (g : ∀ e ∈ m, GoodS w e) : ElemsOf (PySem.strKind P w) m := fun e he => by
  obtain ⟨x, tk, h1, h2⟩ := g e he
  exact ⟨⟨x, by rw [h1]; exact strKind_is P w x tk, h2⟩, by rw [h1] <;> rfl⟩
theorem goodS_is {e : Int × Value} (g : GoodS w e) (k : Str) : (PySem.strKind P w).is k e.2 = true ↔ kyS e = k := by
  obtain ⟨x, tk, h1, _⟩ := g
  unfold kyS
  rw [h1]
  constructor
  · intro z
    exact (PySem.strKind P w).inj _ _ _ (strKind_is P w x tk) z
  · intro z
    have z' : x = k := z
    rw [← z']
    exact strKind_is P w x tk
theorem goodS_mem {m : List (Int × Value)} (g : ∀ e ∈ m, GoodS w e) (k : Str) : k ∈ m.map kyS ↔ ∃ e ∈ m, (PySem.strKind P w).is k e.2 = true := by
  rw [List.mem_map]
  constructor <;> rintro ⟨e, he, q⟩
  · exact ⟨e, he, (goodS_is (g e he) k).2 q⟩
  · exact ⟨e, he, (goodS_is (g e he) k).1 q⟩
theorem setS_tail {g : Bool → Sem Unit} (hg : ∀ (b : Bool) (s₁ : Shared) (Q' : Unit → Shared → Prop), Q' () s₁ → wpAny (model P w) A (g b) Q' E s₁)
    {o : Obj} {es : Array (Int × Value)} {ep : Nat} {t : SetTable} (ho : s.heap.get? a = some o) (hex : o.ExactSet) (hd : o.data = .set es ep t)
    {fs : Array (Int × Value)} {u : SetTable} (g1 : ∀ e ∈ fs.toList, GoodS w e) (pm : (fs.toList.map kyS).Perm l) (nd : l.Nodup) (hb : fs.size < scanBound) (hf : u.fits fs.size = true) (hr : Ris u.place.toList) (hl : w.params.followText "set-order" = true ∨ u.led = true) {dm : Bool} {R : Option Bool → Shared → Prop}
    (hR : ∀ h', Heap.SameBut a s.heap h' → SetS w h' a l → R (some true) { s with heap := h' }) :
    wpAny (model P w) A (do
        storeSet a fs u
        if (!dm && u.tooFull) = true then do
            g (relayAll u fs (SetTable.grown fs.size)).2.2
            storeSet a (relayAll u fs (SetTable.grown fs.size)).1 (relayAll u fs (SetTable.grown fs.size)).2.1
            pure (some true)
          else pure (some true)) R E s := by
  have o1 := store_at (es' := fs) (t' := u) ho hd
  have b1 := Heap.SameBut.update s.heap a (Obj.putSet fs u)
  refine wpAny_bind (wpAny_storeSet_of ho hd ?_ (fits_of_scanBound hb))
  split
  · obtain ⟨p1, p2, p3, p4⟩ := And.intro (relayAll_perm u fs (SetTable.grown fs.size)) (And.intro (relayAll_fits u fs (SetTable.grown fs.size)) (And.intro (relayAll_ris u fs (SetTable.grown fs.size)) (relayAll_led u fs (SetTable.grown fs.size))))
    generalize relayAll u fs (SetTable.grown fs.size) = Z at p1 p2 p3 p4 ⊢
    obtain ⟨gs, v, gave⟩ := Z
    dsimp only at p1 p2 p3 p4 ⊢
    have z1 : gs.size < scanBound := by rw [← Array.length_toList, p1.length_eq, Array.length_toList]; exact hb
    refine wpAny_bind (hg _ _ _ (wpAny_bind (wpAny_storeSet_of o1 rfl (wpAny_pure (hR _ (b1.trans (Heap.SameBut.update _ a _)) ?_)) (fits_of_scanBound z1))))
    exact ⟨_, gs, _, v, store_at (es' := gs) (t' := v) o1 rfl, hex, rfl, fun e he => g1 e (p1.mem_iff.mp he), (p1.map kyS).trans pm, nd, z1, p2, p3, hl.imp id fun z => by rw [p4]; exact z⟩
  · exact wpAny_pure (hR _ b1 ⟨_, fs, _, u, o1, hex, rfl, g1, pm, nd, hb, hf, hr, hl⟩)
theorem setS_add {x : Str} {tk : Tok} {Q : Bool → Shared → Prop} (R : SetS w s.heap a l) (room : l.length + 1 < scanBound)
    (hQ : ∀ b h', Heap.SameBut a s.heap h' → SetS w h' a (addS l x) → Q b { s with heap := h' }) :
    wpAny (model P w) A (setAddHashed a (.str x tk) ((PySem.strKind P w).hash x)) Q E s := by
  obtain ⟨o, es, ep, t, ho, hex, hd, g, pm, nd, hb, hf, hr, hl⟩ := R
  have kx : (PySem.strKind P w).is x (.str x tk) = true := strKind_is P w x tk
  have el : ElemsOf (PySem.strKind P w) es.toList := goodS_elems g
  have sc : (Value.str x tk).scannable = true := rfl
  unfold setAddHashed setAddHashedIn; refine wpAny_holding (wpAny_bind (wpAny_setState_of ho hd hf ?_))
  dsimp only; rw [byScan_of sc hb el]; simp only [↓reduceIte]
  unfold setAddByScan; refine wpAny_bind (wpAny_bind (wpAny_rule (wpAny_bind (wpAny_setScan_of kx ho hd hf el ?_))))
  cases hi : List.findIdx? (fun e => (PySem.strKind P w).is x e.2) es.toList with
  | some j =>
    dsimp only
    obtain ⟨hj, pj, _⟩ := List.findIdx?_eq_some_iff_getElem.mp hi
    have hm : x ∈ l := pm.mem_iff.mp ((goodS_mem (P := P) (w := w) g x).2 ⟨es.toList[j], List.getElem_mem hj, pj⟩)
    refine wpAny_pure (wpAny_pure (hQ _ s.heap (Heap.SameBut.refl a s.heap) ?_))
    unfold addS
    rw [if_pos (any_eqS.mpr hm)]
    exact ⟨o, es, ep, t, ho, hex, hd, g, pm, nd, hb, hf, hr, hl⟩
  | none =>
    dsimp only
    have nm : x ∉ l := fun z => by
      obtain ⟨e, he, q⟩ := (goodS_mem (P := P) (w := w) g x).1 (pm.mem_iff.mpr z)
      have c := List.findIdx?_eq_none_iff.mp hi e he
      rw [q] at c; cases c
    have ea : addS l x = l ++ [x] := by unfold addS; rw [if_neg (fun z => nm (any_eqS.mp z))]
    obtain ⟨p1, p2, p3, p4⟩ := And.intro (layNew_perm t es ((PySem.strKind P w).hash x) (.str x tk)) (And.intro (layNew_fits t es ((PySem.strKind P w).hash x) (.str x tk)) (And.intro (layNew_ris t es ((PySem.strKind P w).hash x) (.str x tk) hr) (layNew_led t es ((PySem.strKind P w).hash x) (.str x tk))))
    generalize layNew t es ((PySem.strKind P w).hash x) (.str x tk) = Z at p1 p2 p3 p4 ⊢
    obtain ⟨fs, u, dm, gave⟩ := Z
    dsimp only at p1 p2 p3 p4 ⊢
    rw [Array.toList_push] at p1
    have q2 : (fs.toList.map kyS).Perm (l ++ [x]) := by
      have z := p1.map kyS
      rw [List.map_append] at z
      exact z.trans (pm.append_right _)
    have g1 : ∀ e ∈ fs.toList, GoodS w e := fun e he => by
      rcases List.mem_append.mp (p1.mem_iff.mp he) with z | z
      · exact g e z
      · rw [List.mem_singleton.mp z]; exact ⟨x, tk, rfl, rfl⟩
    have nd1 : (l ++ [x]).Nodup := by rw [← ea]; exact addS_nodup nd
    have z1 : fs.size < scanBound := by
      have z := q2.length_eq
      rw [List.length_map, Array.length_toList, List.length_append] at z
      simp only [List.length_singleton] at z
      omega
    have led1 : w.params.followText "set-order" = true ∨ u.led = true := hl.imp id fun z => by rw [p4]; exact z
    have fin : ∀ h', Heap.SameBut a s.heap h' → SetS w h' a (l ++ [x]) → Q true { s with heap := h' } := fun h' sb r => hQ true h' sb (by rw [ea]; exact r)
    have hgw : ∀ (b : Bool) {s₁ : Shared} {Q' : Unit → Shared → Prop}, Q' () s₁ → wpAny (model P w) A (match b with | true => rule "set.scan.the-table-gave-way" | false => pure ()) Q' E s₁ :=
      fun b s₁ Q' q => by cases b <;> first | exact wpAny_pure q | exact wpAny_rule q
    refine wpAny_bind (hgw _ ?_)
    split
    · refine wpAny_bind ?_
      rw [hashByValue_scannable 8 sc]
      refine wpAny_pure (setS_tail ?_ ho hex hd g1 q2 nd1 z1 ?_ ?_ ?_ ?_)
      · intro b s₁ Q' q; cases b <;> first | exact wpAny_pure q | exact wpAny_rule q
      · first | (split <;> first | exact p2 | exact SetTable.fits_plain_off p2) | exact p2
      · first | (split <;> exact p3) | exact p3
      · first | (split <;> exact led1) | exact led1
      · intro h' sb r; dsimp only; exact wpAny_pure (fin h' sb r)
    · refine wpAny_bind (wpAny_pure ?_)
      simp only [↓reduceIte]
      refine setS_tail ?_ ho hex hd g1 q2 nd1 z1 p2 p3 led1 ?_
      · intro b s₁ Q' q; cases b <;> first | exact wpAny_pure q | exact wpAny_rule q
      · intro h' sb r; dsimp only; exact wpAny_pure (fin h' sb r)
end
end DL
end L2

/-! DL42: set(list of texts), its len, sorted -/
namespace L2
namespace DL
open PySem PySem.Spec PyProof.Rows
variable [HasW]
theorem dedupS_take {xs : List Str} {i : Nat} (h : i < xs.length) : dedupS (xs.take (i + 1)) = addS (dedupS (xs.take i)) (xs.getD i Str.empty) := by
  unfold dedupS
  rw [List.take_add_one, List.foldl_append, List.getD_eq_getElem?_getD, List.getElem?_eq_getElem h]
  rfl
theorem addS_len (l : List Str) (x : Str) : (addS l x).length ≤ l.length + 1 := by
  unfold addS
  split <;> simp
theorem dedupS_len (l : List Str) : (dedupS l).length ≤ l.length := by
  have go : ∀ (l acc : List Str), (l.foldl addS acc).length ≤ acc.length + l.length := by
    intro l
    induction l with
    | nil => intro acc; exact Nat.le_refl _
    | cons x r ih =>
      intro acc
      have h1 := ih (addS acc x)
      have h2 := addS_len acc x
      simp only [List.foldl_cons, List.length_cons]
      omega
  have := go l []
  rw [List.length_nil, Nat.zero_add] at this
  exact this
section
variable {P : Program} {w : World} {A : Around} {R : Result → Shared → Prop} {I : Addr} {fp wr : List Addr} {G : Array GenState → Array GenState → Prop} {n : Nat} {Pv : Nat → Value → Prop} {St : Nat → Shared → Prop}
theorem loopTexts (W : WalksS P w A.in1 I fp wr G n Pv St) (S : Addr) (hSf : S ∉ fp) (xs : List Str) (hn : xs.length = n) (hval : ∀ i v, Pv i v → ∃ t, v = .str (xs.getD i Str.empty) t) (hb : n + 1 < scanBound) :
    ∀ (k i : Nat) (s : Shared), n - i = k → i ≤ n → St i s → SetS w s.heap S (dedupS (xs.take i)) →
      (∀ s', Moved (S :: wr) G s s' → SetS w s'.heap S (dedupS xs) → R (.ok (.ret .none)) s') →
      codeAny (model P w) A (.builtin "set.update.loop" ⟨[.ref S, .ref I], []⟩) R s := by
  have nw : S ∉ wr := fun z => hSf (W.sub _ z)
  have up : ∀ b ∈ wr, b ∈ S :: wr := fun b z => List.mem_cons_of_mem _ z
  intro k
  induction k with
  | zero =>
    intro i s hk hi hst hS hR
    obtain rfl : i = n := by omega
    refine codeAny_builtin PyProof.Rows.F.entry_set_update_loop ?_; rw [Around.under_plainId PyProof.Rows.F.plain_set_update_loop _]
    show wpAny _ A.in1 (pyNext (.ref I) >>= _) _ _ s
    refine wpAny_bind (W.done s _ _ hst fun s' hm => ?_); show wpAny _ A.in1 (PySem.ret Value.none) _ _ s'
    rw [← hn, List.take_length] at hS
    exact wpAny_pure (hR s' (hm.mono up) (hS.keeps fun o ho => hm.heap S _ nw ho))
  | succ k ih =>
    intro i s hk hi hst hS hR
    have lt : i < n := by omega
    refine codeAny_builtin PyProof.Rows.F.entry_set_update_loop ?_; rw [Around.under_plainId PyProof.Rows.F.plain_set_update_loop _]
    show wpAny _ A.in1 (pyNext (.ref I) >>= _) _ _ s
    refine wpAny_bind (W.item i s _ _ lt hst fun v s' hP hst' hm => ?_)
    obtain ⟨t, rfl⟩ := hval i v hP
    have hS' : SetS w s'.heap S (dedupS (xs.take i)) := hS.keeps fun o ho => hm.heap S _ nw ho
    show wpAny _ A.in1 (holding [Value.str (xs.getD i Str.empty) t] (setAdd S (.str (xs.getD i Str.empty) t)) >>= _) _ _ s'
    refine wpAny_bind (wpAny_holding ?_); unfold setAdd
    have rm : (dedupS (xs.take i)).length + 1 < scanBound := by
      have z := dedupS_len (xs.take i)
      rw [List.length_take] at z
      omega
    refine wpAny_holding (wpAny_bind ((PySem.strKind P w).pyHash (k := xs.getD i Str.empty) (strKind_is _ _ _ _) (setS_add (s := { s' with toks := s'.toks + 1 }) hS' rm fun _ h' hsb hS2 => ?_)))
    rw [← dedupS_take (by omega)] at hS2
    refine wpAny_pure ⟨plainId_quiet PyProof.Rows.F.plain_set_update_loop _, ih (i + 1) _ (by omega) lt (W.frame _ s' _ _ hst' (Nat.le_succ _) fun b hb o e => ?_) hS2 fun s'' hm'' hS'' => ?_⟩
    · rw [hsb.2 b (fun z : b = S => hSf (by rw [← z]; exact hb))]; exact e
    · refine hR s'' (Moved.trans W.gtrans ((hm.mono up).then_heap (Nat.le_succ _) fun b o hb e => ?_) hm'') hS''
      rw [hsb.2 b (fun z : b = S => hb (by rw [z]; exact List.mem_cons_self))]; exact e
end
theorem setS_fresh {w : World} {h : Heap} {a : Addr} (ho : h.get? a = some (newSet w)) : SetS w h a [] :=
  ⟨_, #[], 0, _, ho, ⟨rfl, rfl, rfl⟩, rfl, (fun e he => by simp at he), .refl _, .nil, (by decide), (by rfl), List.Pairwise.nil, by
    show _ ∨ (!w.params.followText "set-order") = true
    cases w.params.followText "set-order"
    · exact .inr rfl
    · exact .inl rfl⟩
section
variable {P : Program} {w : World} {A : Around} {E : Value → Shared → Prop} {s : Shared}
set_option maxHeartbeats 3200000 in
theorem call_setTexts {l : Addr} {items : Array Value} (xs : List Str) {Q : Value → Shared → Prop} (hh : A.handled = none) (hl : s.heap.IsList l items) (hn : xs.length = items.size) (hit : ∀ (i : Nat) (v : Value), items[i]? = some v → ∃ t, v = Value.str (xs.getD i Str.empty) t) (hb : items.size + 1 < scanBound)
    (h : ∀ (h' : Heap) (tk : Nat), SetS w h' s.heap.objs.size (dedupS xs) → (∀ b o, s.heap.get? b = some o → h'.get? b = some o) → Q (.ref s.heap.objs.size) { s with heap := h', toks := tk }) :
    wpAny (model P w) A (call (.type "set") [.ref l]) Q E s := by
  obtain ⟨c, tl, hmro⟩ := PySem.F.called_set.mro; have hmade := PySem.F.called_set.made; have hsub := PySem.F.called_set.sub
  refine wpAny_call (codeAny_of_tree ?_); show wpAny _ _ (callAny (.type "set") _) _ _ _
  refine wpAny_pure ⟨Code.quiet_builtin _ (by decide +kernel), codeAny_builtin PySem.F.entry_type_call ?_⟩; rw [Around.under_plain (weight_type_call_type "set" [.ref l] []) rfl]
  have h1 := PySem.F.called_set.notType; have h2 := PySem.F.called_set.canCreate; have hct := PySem.F.typeCall_set_1 (.ref l)
  repeat (any_goals (first | assumption | wp_step))
  refine codeAny_mono (code_set_led1 (.ref l) (E := E) (Q₁ := fun obj s₁ => obj = .ref s.heap.objs.size ∧ s₁ = { s with heap := s.heap.push (newSet w) }) ⟨rfl, rfl⟩) fun r s₁ hr => ?_
  cases r with
  | error e => exact hr
  | ok fl =>
    cases fl with
    | ret obj =>
      obtain ⟨rfl, rfl⟩ := hr
      have hS : (s.heap.push (newSet w)).get? s.heap.objs.size = some (newSet w) := Heap.get?_push_size _ rfl
      have hT : Shared.TypeIs { s with heap := s.heap.push (newSet w) } (.ref s.heap.objs.size) "set" := ⟨_, hS, rfl⟩
      have hli := PySem.F.called_set.init.lookup; have hbi := PySem.F.called_set.init.bind (.ref s.heap.objs.size)
      repeat (any_goals (first | assumption | wp_step))
      refine codeAny_mono (codeAny_call_builtin (R := wants (fun r s₂ => r = .none ∧ ∃ h' tk, s₂ = { s with heap := h', toks := tk } ∧ SetS w h' s.heap.objs.size (dedupS xs) ∧ (∀ b o, s.heap.get? b = some o → h'.get? b = some o)) E) PySem.F.called_set.init.plain PySem.F.entry_set_init (check_set_init_1 hT ?_)) fun r₂ s₂ hr₂ => ?_
      · obtain ⟨ol, hol, hcl, nl, hdl⟩ := hl
        obtain ⟨ocls, odict, odata, oslots⟩ := ol
        dsimp only at hcl hdl
        subst hcl hdl
        have hol' : (s.heap.push (newSet w)).get? l = some { cls := .type "list", dict := odict, data := .seq items nl, slots := oslots } := Heap.get?_push_of_some _ hol
        have hsls := PySem.F.sub_list_set; have hslf := PySem.F.sub_list_frozenset
        have hne : (Value.type "list" == Value.type "dict") = false := by decide
        have hl1 : (s.heap.push (newSet w)).IsList l items := ⟨_, hol', rfl, nl, rfl⟩
        unfold Builtin.«set.__init__» noKeywords Builtin.Frozenset.updateFrom
        generalize hPI : pyIter = PI
        wp_walk
        subst hPI
        refine wpAny_pyIter_list hl1 (wpAny_bind (wpAny_runValue ?_))
        have lS : l < s.heap.objs.size := Heap.lt_size hol
        have hh3 : A.in1.in1.in1.handled = none := by simp [hh]
        have nI : l ≠ (s.heap.push (newSet w)).objs.size := by rw [Heap.size_push]; exact Nat.ne_of_lt (Nat.lt_succ_of_lt lS)
        have nS : s.heap.objs.size ∉ [(s.heap.push (newSet w)).objs.size, l] := by
          rw [Heap.size_push]; simp only [List.mem_cons, List.not_mem_nil, or_false, not_or]
          exact ⟨Nat.ne_of_lt (Nat.lt_succ_self _), Nat.ne_of_gt lS⟩
        refine loopTexts ((Walks.list hh3 _ l nI items).toS) s.heap.objs.size nS xs hn (fun i v hv => hit i v hv) hb (items.size - 0) 0 _ (by omega) (Nat.zero_le _) ⟨⟨_, Heap.get?_push_size _ rfl, rfl, rfl⟩, (hl1.push _)⟩ (setS_fresh (Heap.get?_push_of_some _ hS)) ?_
        intro s' hm hS'
        obtain ⟨h', g2, d', tk', os'⟩ := s'
        obtain rfl : g2 = s.gens := hm.gens
        obtain rfl : d' = s.drawn := hm.drawn
        obtain rfl : os' = s.os := hm.os
        show wpAny _ _ _ _ _ _
        refine wpAny_pure ?_
        show wpAny _ _ (PySem.ret Value.none) _ _ _
        refine wpAny_pure ⟨rfl, h', tk', rfl, hS', fun b o e => hm.heap b o ?_ (Heap.get?_push_of_some _ (Heap.get?_push_of_some _ e))⟩
        have lt := Heap.lt_size e
        rw [Heap.size_push]
        simp only [List.mem_cons, List.not_mem_nil, or_false, not_or]
        exact ⟨Nat.ne_of_lt lt, Nat.ne_of_lt (Nat.lt_succ_of_lt lt)⟩
      · cases r₂ with
        | error e => exact hr₂
        | ok fl₂ =>
          cases fl₂ with
          | ret r =>
            obtain ⟨rfl, h', tk, rfl, hS', hk'⟩ := hr₂
            repeat (any_goals (first | assumption | wp_step))
            exact h _ _ hS' hk'
          | _ => exact hr₂.elim
    | _ => exact hr.elim
theorem len_setTexts {a : Addr} {l : List Str} {Q : Value → Shared → Prop} (R : SetS w s.heap a l) (h : ∀ t s', s' = { s with toks := s.toks + 1 + 1 } → Q (.int l.length t) s') : wpAny (model P w) A (call (.builtin "len") [.ref a]) Q E s := by
  obtain ⟨o, es, ep, t, ho, hex, hd, g, pm, nd, hb, hf, hr, hl⟩ := R
  have hz : es.size = l.length := by have z := pm.length_eq; rw [List.length_map, Array.length_toList] at z; exact z
  refine call_len_set ho hex hd hf (by unfold scanBound at hb; omega) ?_
  rw [hz]
  exact h _ _ rfl
/-- the values of a set of texts -/
theorem strs_back {w : World} : ∀ (vs : List Value), (∀ v ∈ vs, ∃ x tk, v = Value.str x tk) → ∃ ss : List Str, Vals (ss.map V.str) vs ∧ ss = vs.map fun v => kyS (0, v)
  | [], _ => ⟨[], .nil, rfl⟩
  | v :: vs, h => by
    obtain ⟨x, tk, rfl⟩ := h v List.mem_cons_self
    obtain ⟨ss, h1, h2⟩ := strs_back (w := w) vs fun u hu => h u (List.mem_cons_of_mem _ hu)
    exact ⟨x :: ss, .cons ⟨tk, rfl⟩ h1, by rw [h2]; rfl⟩
end
end DL
end L2

/-! DL43: len(set(e)), sorted(set(e)) -/
namespace L2
namespace DL
open PySem PySem.Spec PyProof.Rows
variable [HasW]
section
variable {P : Program} {w : World} {A : Around} {E : Value → Shared → Prop} {s : Shared}
theorem each_strs : ∀ {ss : List Str} {vs : List Value}, Vals (ss.map V.str) vs → PySem.W.EachIs (fun v x => RelV (V.str x) v) vs ss
  | [], _, r => by cases r; exact .nil
  | x :: ss, _, r => by cases r with | cons a b => exact .cons a (each_strs b)
theorem vals_each : ∀ {ss : List Str} {vs : List Value}, PySem.W.EachIs (fun v x => RelV (V.str x) v) vs ss → Vals (ss.map V.str) vs
  | _, _, .nil => .nil
  | _, _, .cons a b => .cons a (vals_each b)
theorem each_reads {h : Heap} {a : Addr} : ∀ {ss : List Str} {vs : List Value}, Vals (ss.map V.str) vs → PySem.W.EachIs (fun v x => ∃ as, Reads h v (PyData.str x) as ∧ a ∉ as) vs ss
  | [], _, r => by cases r; exact .nil
  | x :: ss, _, r => by
    cases r with
    | cons q b =>
      obtain ⟨t, rfl⟩ := (show ∃ t, _ = Value.str x t from q)
      exact .cons ⟨[], .str x t, by simp⟩ (each_reads b)
theorem sorted_setTexts {a : Addr} {l : List Str} {Q : Value → Shared → Prop} (R : SetS w s.heap a l) (hh : A.handled = none) (hu : A.units + 64 < cLine) (few : l.length < 64)
    (hQ : ∀ s' p (out : Array Value) (c : Nat), (∀ b o, s.heap.get? b = some o → s'.heap.get? b = some o) → s'.gens = s.gens → s'.os = s.os → s.heap.objs.size ≤ p →
      s'.heap.get? p = some (seqObj "list" out c) → Vals ((sortS l).map V.str) out.toList → Q (.ref p) s') :
    wpAny (model P w) A (call (.builtin "sorted") [.ref a]) Q E s := by
  obtain ⟨o, es, ep, t, ho, hex, hd, g, pm, nd, hb, hf, hr, hl⟩ := R
  refine Calls.call_function_entry kind_sorted plain_sorted entry_sorted (args_sorted1 _) ?_; unfold Builtin.«sorted»
  refine wpAny_bind (m := checkCount "sorted" 1 1 _) (wpAny_pure (wpAny_bind (collect_set (A := A.in1) hh ⟨o, ho, hex.1, hd⟩ hf hb hr hl fun s1 vs k1 hz g1 o1 pv => ?_)))
  obtain ⟨ss, rs, es'⟩ := strs_back (w := w) vs fun v hv => by
    obtain ⟨e, he, q⟩ := List.mem_map.mp (pv.mem_iff.mp hv)
    obtain ⟨x, tk, h1, _⟩ := g e he
    exact ⟨x, tk, by rw [← q]; exact h1⟩
  have ps : ss.Perm l := by
    have q := pv.map fun v => kyS (0, v)
    rw [List.map_map, ← es'] at q
    exact q.trans pm
  have lv : vs.length = ss.length := by have := rs.length; rw [List.length_map] at this; exact this.symm
  have ls : ss.length < 64 := by rw [ps.length_eq]; exact few
  refine wpAny_bind (wpAny_newList ?_ (by rw [lv, sizeLine_eq]; omega))
  have at_L : (s1.heap.push (seqObj "list" vs.toArray 0)).get? s1.heap.objs.size = some (seqObj "list" vs.toArray 0) := Heap.get?_push_size _ rfl
  have al : PySem.W.AllAlike (ss.map PyData.str) := PySem.W.AllAlike.of fun b b' => by simp [PySem.W.alike]
  have so : PySem.W.Sortable (ss.map PyData.str) := PySem.W.Sortable.others fun b => ⟨(fun z => nomatch z), fun xs z => nomatch z⟩
  refine wpAny_bind (wpAny_holding (PySem.W.list_sort_data (enc := PyData.str) (bs := ss) (vs := vs) (R := fun v x => RelV (V.str x) v) at_L (each_strs rs) (each_reads rs) al so (by rw [sizeLine_eq]; omega) (fun b _ => ?_) fun out ol eo => ?_))
  · have d0 : (PyData.str b).depth = 0 := rfl
    rw [d0]
    show A.in1.units + 1 + 0 < cLine
    simp only [Around.in1_units]
    omega
  · obtain ⟨c, hc⟩ := sortedHeap_at (vs := vs) (out := out.toArray) at_L
    have em : ss.mergeSort (PySem.W.dataLe false PyData.str) = sortS l := by
      have e1 : (PySem.W.dataLe false PyData.str : Str → Str → Bool) = leS := by
        funext x y
        have z := congrFun (congrFun (PySem.W.dataLe_str (β := Str) id) x) y
        exact z
      rw [e1, merge_sortS]
      exact sorted_eq ((sortS_perm ss).trans (ps.trans (sortS_perm l).symm)) (sortS_sorted ss) (sortS_sorted l)
    rw [em] at eo
    refine wpAny_pure ⟨_, rfl, hQ _ s1.heap.objs.size out.toArray c (fun b u e => ?_) g1 o1 hz hc (by simpa using vals_each eo)⟩
    have q := k1 b u e
    have lt := Heap.lt_size q
    show (sortedHeap (s1.heap.push (seqObj "list" vs.toArray 0)) s1.heap.objs.size vs out.toArray).get? b = some u
    rw [sortedHeap_old (Nat.ne_of_lt lt) (by rw [size_push']; exact Nat.lt_succ_of_lt lt)]
    exact Heap.get?_push_of_some _ q
end
section
variable {X : Cx} {W : WX} {e : Expr} {m : Ev → M Vl} {p p2 pos q0 : Pos}
theorem setStrs_rel {K : PySem.W.Frag} {hd as : List Addr} {G : Gh} {H : Hp} {x : Vl} {v : V} {l : List Str} (w : Wd K hd as G H) (r : RelVl K as (Fz hd as G H) x v) (h : setStrs x G = some l) : ∃ a ss, v = .ref a ∧ SqL K H a (ss.map V.str) ∧ ss.length < 64 ∧ l = dedupS ss := by
  unfold setStrs at h
  cases es : (listD x G).bind strsOf with
  | none => rw [es] at h; cases h
  | some ss =>
    rw [es] at h
    simp only at h
    split at h
    · rename_i hz
      cases h
      obtain ⟨ds, h1, h2⟩ := Option.bind_eq_some_iff.mp es
      obtain ⟨a, xs, ev, h3, h4⟩ := listD_rel w r h1
      rw [strsOf_rel h2 h4] at h3
      exact ⟨a, ss, ev, .inl h3, hz, rfl⟩
    · cases h
theorem vstr_at : ∀ {ss : List Str} {its : List Value} {i : Nat} {v : Value}, Vals (ss.map V.str) its → its[i]? = some v → ∃ t, v = Value.str (ss.getD i Str.empty) t
  | [], _, _, _, r, h => by cases r; simp at h
  | x :: ss, _, 0, v, r, h => by
    cases r with
    | cons a b => simp at h; subst h; exact a
  | x :: ss, _, i + 1, v, r, h => by
    cases r with
    | cons a b =>
      obtain ⟨t, e⟩ := vstr_at (i := i) b (by simpa using h)
      exact ⟨t, by simpa using e⟩
/-- set(e), at the model -/
theorem set_low2 (hc : X.calm = true) {pins : List (Addr × Obj)} {σ : St} {H : Hp} {s : Shared} {a : Addr} {ss : List Str} {Q : Value → Shared → Prop} (I : Inv X pins σ H s) (hq : SqL X.K H a (ss.map V.str)) (hz : ss.length < 64)
    (h : ∀ h' tk, SetS X.w h' s.heap.objs.size (dedupS ss) → Inv X pins σ H { s with heap := h', toks := tk } → Q (.ref s.heap.objs.size) { s with heap := h', toks := tk }) : wpAny (model X.prog X.w) X.A (call (.type "set") [.ref a]) Q X.xe s := by
  obtain ⟨its, rv, pl, _⟩ := I.list hq
  have ln : ss.length = its.toArray.size := by have := rv.length; rw [List.length_map] at this; rw [List.size_toArray]; exact this
  refine call_setTexts ss (I.ok.hd hc) pl.isList ln (fun i v hv => vstr_at rv (by simpa using hv)) (by rw [← ln]; unfold scanBound; omega) fun h' tk hS hk => h h' tk hS (I.kept hk)
theorem q_lenSet (hc : X.calm = true) (hg : Gl X "len") (hm : X.mg "len" = none) (hg2 : Gl X "set") (hm2 : X.mg "set" = none) (_ : X.A.units + 64 < cLine) (he : QE X W e m)
    (na : starEach [e] X.env = (false, eval e X.env) :: starEach [] X.env := by rfl) : QE X W (.Call (.Name "len" p) [.Call (.Name "set" p2) [e] [] q0] [] pos) (lenSetE m) := by
  refine ⟨fun pins s σ H Q I ⟨hd, as, ρ, G, a, q⟩ => ?_⟩
  refine Call_ (ld_blt I hg hm PySem.boot_len (PyProof.Rows.callWith_builtin1 (PyProof.Rows.args_cons ?_ rfl) rfl rfl))
  refine Call_ (ld_blt I hg2 hm2 PyProof.Rows.boot_set (PyProof.Rows.callWith_type1 (PyProof.Rows.args_cons (thn (he.run pins s σ H _ I ⟨hd, as, ρ, G, a, Res.bind q⟩) fun v s1 ⟨x, H1, I1, rx, as1, G1, y, e1, w1, r1, q1⟩ => PyProof.Rows.args_nil ?_) na) na rfl))
  cases es : setStrs y G1 with
  | none => simp only [es] at q1; exact q1.elim
  | some l =>
    simp only [es] at q1
    obtain ⟨b, ss, ev, h1, h2, h3⟩ := setStrs_rel w1 r1 es
    subst ev
    cases rx
    refine set_low2 hc I1 h1 h2 fun h' tk hS I2 => PyProof.Rows.args_nil (len_setTexts hS fun t s' hs => ?_)
    subst hs
    rw [← h3]
    exact ⟨.int l.length, H1, I2.tok _, ⟨_, rfl⟩, q1 as1 H1 _ (Ext.refl _ _ _ _) w1 (RelD.int _)⟩
theorem q_sortSet (hc : X.calm = true) (hg : Gl X "sorted") (hm : X.mg "sorted" = none) (hg2 : Gl X "set") (hm2 : X.mg "set" = none) (hu : X.A.units + 64 < cLine) (he : QE X W e m)
    (na : starEach [e] X.env = (false, eval e X.env) :: starEach [] X.env := by rfl) : QE X W (.Call (.Name "sorted" p) [.Call (.Name "set" p2) [e] [] q0] [] pos) (sortSetE m) := by
  refine ⟨fun pins s σ H Q I ⟨hd, as, ρ, G, a, q⟩ => ?_⟩
  refine Call_ (ld_blt I hg hm PyProof.Rows.boot_sorted (PyProof.Rows.callWith_builtin1 (PyProof.Rows.args_cons ?_ rfl) rfl rfl))
  refine Call_ (ld_blt I hg2 hm2 PyProof.Rows.boot_set (PyProof.Rows.callWith_type1 (PyProof.Rows.args_cons (thn (he.run pins s σ H _ I ⟨hd, as, ρ, G, a, Res.bind q⟩) fun v s1 ⟨x, H1, I1, rx, as1, G1, y, e1, w1, r1, q1⟩ => PyProof.Rows.args_nil ?_) na) na rfl))
  cases es : setStrs y G1 with
  | none => simp only [es] at q1; exact q1.elim
  | some l =>
    simp only [es] at q1
    obtain ⟨b, ss, ev, h1, h2, h3⟩ := setStrs_rel w1 r1 es
    subst ev
    cases rx
    refine set_low2 hc I1 h1 h2 fun h' tk hS I2 => PyProof.Rows.args_nil (sorted_setTexts hS (I1.ok.hd hc) hu (by have := dedupS_len ss; omega) fun s' p out c k g o hp hg' rv => ?_)
    rw [← h3] at rv
    have hn : H1 p = none := I2.hok.fresh hp
    have len : ((sortS l).map V.str).length ≤ sizeLine := by
      have z := dedupS_len ss
      rw [List.length_map, (sortS_perm l).length_eq, h3, sizeLine_eq]
      omega
    have J : Inv X pins σ (upd H1 p (.lst ((sortS l).map V.str))) { ({ s1 with heap := h', toks := tk } : Shared) with heap := s'.heap, gens := s'.gens, drawn := s'.drawn, toks := s'.toks } :=
      I2.call (ch := []) (Un.laid k hp hn) (I2.hok.laid k hp ⟨len, out.toList, c, rv, hg'⟩) (by rw [g]; exact I2.bare) (fun _ z => nomatch z)
    have e' : s' = { ({ s1 with heap := h', toks := tk } : Shared) with heap := s'.heap, gens := s'.gens, drawn := s'.drawn, toks := s'.toks } := by cases s'; cases s1; cases o; rfl
    rw [e']
    obtain ⟨w2, e2, f2⟩ := w1.new (.lst ((sortS l).map V.str)) hn
    exact ⟨.ref p, _, J, rfl, q1 as1 _ (.ref p) e2 w2 (RelD.lst (.inl f2) (strs_rel _))⟩
end
end DL
end L2

/-! DL41: small things for the generator -/
namespace L2
namespace DL
open PySem PySem.Spec PyProof.Rows
variable [HasW]
def intAO : Vl → Gh → Option (Vl × Gh) := fun x G => match x with
  | .dat (.str z) => intSO (.dat (.str z)) G
  | x => intO x G
section
variable {X : Cx}
theorem cl_intA : CallL X (.type "int") (oneO intAO) := by
  intro pins s σ H xs us Q hd as G a I rv w ra h
  unfold oneO at h
  split at h
  · rename_i x
    unfold intAO at h
    split at h
    · exact cl_intS pins s σ H xs us Q hd as G _ I rv w ra h
    · exact cl_int pins s σ H xs us Q hd as G _ I rv w ra h
  · exact h.elim
theorem ol_inN0 (hw : X.w = HasW.w) (hu : X.A.units + 65 < cLine) : OpL X (compareOp .In) (inNO false) := ol_inN false hw hu
theorem ol_inN1 (hw : X.w = HasW.w) (hu : X.A.units + 65 < cLine) : OpL X (compareOp .NotIn) (inNO true) := ol_inN true hw hu
end
/-! ### the promise of an own error's __init__, from the head's facts -/
def HasX (P : Program) (K : PySem.W.Frag) (mg : Str → Option Value) (c q : Str) (st : Stmt) : Prop :=
  ∃ fd, SupI P K (He.ga K c) (He.ma K (He.ga K c) "__init__") "__init__" q (defArgs st) (defBody st) (defScope st) fd (fieldOf c) ∧ fd.defaults = .none ∧ mg c = some (.ref (He.ga K c))
section
variable {P : Program} {w : World} {K : PySem.W.Frag} {mg : Str → Option Value} {base : Heap} {c q par : Str} {st : Stmt} {p0 p1 p2 p3 p4 p5 p6 p7 p8 : Pos} {k : Nat} {ar : Arg}
theorem OkX.of (h : HasX P K mg c q st) (hbody : defBody st = [.Expr (.Call (.Attribute (.Call (.Name "super" p0) [] [] p1) "__init__" p2) [] [] p3) p4, .Assign [.Attribute (.Name "self" p5) (fieldOf c) p6] (.Name par p7) p8])
    (hp : ((defArgs st).posonlyargs ++ (defArgs st).args).head? = some ar) (ha : ar.arg = "self") (hks : (defScope st).names.lookup ("super" : Str) = some .globalImplicit) (hkc : (defScope st).names.lookup ("__class__" : Str) = some .free)
    (hself : (defScope st).names.lookup ("self" : Str) = some .local) (hpar : (defScope st).names.lookup par = some .local) (hne : ("self" : Str) ≠ par) (hd1 : (par == ("__debug__" : Str)) = false) (hk : (defScope st).kind = .function) (hco : (defScope st).isCoroutine = false) (hgen : (defScope st).isGenerator = false) (hcell : ∀ y ∈ (defScope st).names, y.2 ≠ .cell)
    (he : ∀ L cda cc : Addr, ∃ pl : Sem Bool, eval (.Call (.Attribute (.Call (.Name "super" p0) [] [] p1) "__init__" p2) [] [] p3) (PySem.W.ksEnv q (defScope st) L (He.ma K (He.ga K c) "__init__") (.ref cda) cc) = (do
      let ov ← attributeBase (.Call (.Name "super" p0) [] [] p1) "__init__" (PySem.W.ksEnv q (defScope st) L (He.ma K (He.ga K c) "__init__") (.ref cda) cc) (eval (.Call (.Name "super" p0) [] [] p1) (PySem.W.ksEnv q (defScope st) L (He.ma K (He.ga K c) "__init__") (.ref cda) cc))
      standAt p2.atName
      let (g, first) ← holding [ov] (getMethod ov "__init__" pl)
      callWith p3 g first (backTo p3 (starEach [] (PySem.W.ksEnv q (defScope st) L (He.ma K (He.ga K c) "__init__") (.ref cda) cc))) []))
    (hb : ∀ (kV doc pm : Value) (an : Option Addr) (cdv ct : Value) (cc : Addr) (us : List Value), us.length = 2 → bindArgs (PySem.W.ksFn "__init__" q (defArgs st) (defBody st) (defScope st) .none kV doc pm an cdv ct cc) ⟨us, []⟩ = pure ((["self", par] : List Str).zip us)) :
    OkX P w K mg base (k + 1) c := by
  obtain ⟨fd, T, hdf, hg⟩ := h
  refine ⟨T.oex, T.init, T.ty, ⟨fd, par, ?_, ?_⟩, hg⟩
  · exact supInit (hbody ▸ T) hp ha hks hkc hself hpar hne hd1 hk hco hgen hcell he
  · obtain ⟨oc, od, dV, kV, doc, pm, an, cda, ct, cc, osl, ccl, cdd, vs, ccs, file, tf, cl, cld, csl, rfl, _⟩ := T.ex
    have e : dV = .none := hdf
    subst e
    exact .all (hb kV doc pm an (.ref cda) ct cc)
end
end DL
end L2

/-! DL44: the head's facts, by one look; the end of a law over them -/
namespace L2
namespace DL
open PySem PySem.Spec PyProof.Rows
/-- a def: its place, its name, qualified name, its row; pl: no cell is captured -/
theorem funA {K : PySem.W.Frag} {a : Addr} {name qual : Str} {params : Arguments} {body : List Stmt} {scope : Scope} (e : obsA K a = some (name, qual, params, .stmts body, scope, mainGlobals, builtinsNs)) (c : plainA K a qual = true) : ∃ fd, FunD K name qual params body scope [] [] a fd := by
  obtain ⟨kp, c2⟩ := Bool.and_eq_true_iff.mp c
  unfold obsA at e
  cases q : K.lookup a with
  | none => rw [q] at c2; cases c2
  | some o =>
    obtain ⟨oc, od, dt, osl⟩ := o
    rw [q] at c2 e
    cases dt with
    | func fd =>
      obtain ⟨n1, n2, n3, n4, n5, n6, n7, n8, n9, n10, n11, n12, n13, n14, n15⟩ := fd
      dsimp only at e c2
      simp only [Option.some.injEq, Prod.mk.injEq] at e
      obtain ⟨h1, h2, h3, h4, h5, h6, h8⟩ := e
      obtain ⟨h7, c3⟩ := Bool.and_eq_true_iff.mp c2
      obtain ⟨k1, k2⟩ := Bool.and_eq_true_iff.mp c3
      obtain ⟨k3, k4⟩ := Bool.and_eq_true_iff.mp k2
      have h7' : n7 = [] := List.isEmpty_iff.mp h7
      subst h1 h2 h3 h4 h5 h6 h7' h8
      exact ⟨_, ⟨oc, od, n8, n9, n10, n11, n12, n13, n14, osl, rfl, q, k1, He.dflB_ok k3, He.kwdB_ok k4⟩, kp⟩
    | _ => cases c2
/-! ### truths of the head -/
theorem propB_ok {K : PySem.W.Frag} {c f : Str} (h : propB K c f = true) : PropOf K (He.ga K c) f (He.ma K (He.ga K c) f) (pga K (He.ga K c) f) := by
  obtain ⟨h1, h⟩ := Bool.and_eq_true_iff.mp h
  obtain ⟨h2, h⟩ := Bool.and_eq_true_iff.mp h
  obtain ⟨h3, h4⟩ := Bool.and_eq_true_iff.mp h
  refine ⟨of_decide_eq_true h1, of_decide_eq_true h2, of_decide_eq_true h3, ?_⟩
  unfold pga
  split at h4
  · rename_i g r e
    exact ⟨r, by rw [e]⟩
  · cases h4
theorem excB_ok {K : PySem.W.Frag} {D : Addr} (h : excB K D = true) : ExcC K D := by
  obtain ⟨h1, h⟩ := Bool.and_eq_true_iff.mp h
  obtain ⟨h2, h⟩ := Bool.and_eq_true_iff.mp h
  obtain ⟨h3, h⟩ := Bool.and_eq_true_iff.mp h
  obtain ⟨h4, h⟩ := Bool.and_eq_true_iff.mp h
  obtain ⟨h5, h⟩ := Bool.and_eq_true_iff.mp h
  obtain ⟨h6, h⟩ := Bool.and_eq_true_iff.mp h
  obtain ⟨h7, h8⟩ := Bool.and_eq_true_iff.mp h
  exact ⟨of_decide_eq_true h1, of_decide_eq_true h2, of_decide_eq_true h3, h4, of_decide_eq_true h5, of_decide_eq_true h6, of_decide_eq_true h7, of_decide_eq_true h8⟩
theorem lookup_mem {α : Type} {t : List (Str × α)} {c : Str} {b : α} (h : t.lookup c = some b) : (c, b) ∈ t := by
  induction t with
  | nil => cases h
  | cons p t ih =>
    obtain ⟨k, v⟩ := p
    by_cases e : c = k
    · subst e
      rw [List.lookup_cons_self] at h
      cases h
      exact List.mem_cons_self ..
    · rw [List.lookup_cons, beq_false_of_ne e] at h
      exact List.mem_cons_of_mem _ (ih h)
theorem isxB_ok {K : PySem.W.Frag} {C : Str} {t : List (Str × Bool)} (h : isxB K C t = true) : IsX K (.ref (He.ga K C)) (fun c => t.lookup c) := ⟨fun c b e => by
  have z := List.all_eq_true.mp h _ (lookup_mem e)
  obtain ⟨z1, z2⟩ := Bool.and_eq_true_iff.mp z
  exact ⟨excB_ok z1, of_decide_eq_true z2⟩⟩
theorem exmB_ok {K : PySem.W.Frag} {C : Str} {t : List (Str × Bool)} (h : exmB K C t = true) : ∀ e b, t.lookup e = some b → PySem.W.exmOne K (.ref (He.ga K e)) (.ref (He.ga K C)) = some b := fun c b e => of_decide_eq_true (List.all_eq_true.mp h _ (lookup_mem e))
/-! ### own errors -/
theorem oexB_ok {K : PySem.W.Frag} {C : Addr} (h : oexB K C = true) : OexC K C := by
  obtain ⟨h1, h⟩ := Bool.and_eq_true_iff.mp h
  obtain ⟨h2, h⟩ := Bool.and_eq_true_iff.mp h
  obtain ⟨h3, h⟩ := Bool.and_eq_true_iff.mp h
  obtain ⟨h4, h5⟩ := Bool.and_eq_true_iff.mp h
  refine ⟨?_, of_decide_eq_true h2, of_decide_eq_true h3, of_decide_eq_true h4, h5⟩
  split at h1
  · rename_i n dd cd sl ho
    obtain ⟨hn, j1⟩ := Bool.and_eq_true_iff.mp h1
    clear h1
    obtain rfl := of_decide_eq_true hn
    split at j1
    · rename_i C' bm k0 k1 k2 k3 n k5 hm hs
      obtain ⟨g1, j2⟩ := Bool.and_eq_true_iff.mp j1
      obtain ⟨g2, j3⟩ := Bool.and_eq_true_iff.mp j2
      obtain ⟨g3, j4⟩ := Bool.and_eq_true_iff.mp j3
      obtain ⟨g4, g5⟩ := Bool.and_eq_true_iff.mp j4
      clear j1 j2 j3 j4
      obtain rfl := of_decide_eq_true g1
      obtain rfl := of_decide_eq_true g2
      obtain ⟨nm, bs, mro, ns, qn, hd, sn, sub, ab, col, del⟩ := cd
      dsimp only at hm g3 g4
      have g3' : del = false := by simpa using g3
      subst hm g3' g4
      have hsl : sl = #[k0, k1, k2, k3, some (.builtin "ValueError.__new__"), k5] := by obtain ⟨l⟩ := sl; dsimp only at hs; rw [hs]
      subst hsl
      exact ⟨nm, qn, ns, bs, bm, sn, sub, ab, col, dd, k0, k1, k2, k3, k5, ho, g5⟩
    · cases j1
  · cases h1
/-- the __init__ at f of the class at C: its cell is the class, its code lies in the program's file -/
theorem supB_ok {P : Program} {K : PySem.W.Frag} {C f : Addr} {q fld : Str} {st : Stmt} (h : supB P.main.file K C f q fld = true) (e : obsA K f = some (("__init__" : Str), q, defArgs st, .stmts (defBody st), defScope st, mainGlobals, builtinsNs)) (top : (P.main.scope.names.lookup ("super" : Str)).isSome = false) :
    ∃ fd, SupI P K C f "__init__" q (defArgs st) (defBody st) (defScope st) fd fld ∧ fd.defaults = .none := by
  obtain ⟨h1, h⟩ := Bool.and_eq_true_iff.mp h
  obtain ⟨h2, h⟩ := Bool.and_eq_true_iff.mp h
  obtain ⟨h3, h⟩ := Bool.and_eq_true_iff.mp h
  obtain ⟨h4, h⟩ := Bool.and_eq_true_iff.mp h
  obtain ⟨h5, h⟩ := Bool.and_eq_true_iff.mp h
  obtain ⟨h6, h⟩ := Bool.and_eq_true_iff.mp h
  obtain ⟨h7, h⟩ := Bool.and_eq_true_iff.mp h
  obtain ⟨h8, h⟩ := Bool.and_eq_true_iff.mp h
  obtain ⟨h9, h10⟩ := Bool.and_eq_true_iff.mp h
  unfold obsA at e
  cases ql : K.lookup f with
  | none => rw [ql] at h1; cases h1
  | some o =>
    obtain ⟨oc, od, dt, osl⟩ := o
    rw [ql] at h1 e
    cases dt with
    | func fd =>
      obtain ⟨n1, n2, n3, n4, n5, n6, n7, n8, n9, n10, n11, n12, n13, n14, n15⟩ := fd
      dsimp only at e h1
      simp only [Option.some.injEq, Prod.mk.injEq] at e
      obtain ⟨e1, e2, e3, e4, e5, e6, e8⟩ := e
      obtain ⟨g1, g⟩ := Bool.and_eq_true_iff.mp h1
      obtain ⟨g2, g3⟩ := Bool.and_eq_true_iff.mp g
      subst e1 e2 e3 e4 e5 e6 e8
      obtain rfl := of_decide_eq_true g1
      split at g2
      · rename_i n cc
        obtain ⟨g4, g5⟩ := Bool.and_eq_true_iff.mp g2
        obtain rfl := of_decide_eq_true g4
        split at g5
        · rename_i cl cld C' csl lcc
          obtain rfl := of_decide_eq_true g5
          split at g3
          · rename_i cda
            obtain ⟨g6, g7⟩ := Bool.and_eq_true_iff.mp g3
            split at g7
            · rename_i ccl cdd vs ccs lcd
              split at g7
              · rename_i z tf hz
                exact ⟨_, ⟨⟨oc, od, .none, n9, n10, n11, n12, cda, n14, cc, osl, ccl, cdd, vs, ccs, z, tf, cl, cld, csl, rfl, ql, g6, lcd, hz, g7, lcc⟩, oexB_ok h2, of_decide_eq_true h3, of_decide_eq_true h4, of_decide_eq_true h5, of_decide_eq_true h6, of_decide_eq_true h7, of_decide_eq_true h8, top, by decide +kernel, of_decide_eq_true h9, of_decide_eq_true h10⟩, rfl⟩
              · cases g7
            · cases g7
          · cases g3
        · cases g5
      · cases g2
    | _ => cases h1
/-! ### the look -/
section
variable {fa : List He.Fa} {bs : List (PySem.W.Frag → Bool)} {fn : List DefA} {K : PySem.W.Frag}
theorem SaysX.all (c : SaysX fa bs fn K) : (fa.all fun f => f.ok K) = true ∧ (bs.all fun b => b K) = true ∧ (fn.all fun d => d.ok K) = true ∧ noListB K = true := by
  have z := congrArg (fun z : AlX => z.1) c
  obtain ⟨h1, h⟩ := Bool.and_eq_true_iff.mp z
  obtain ⟨h2, h⟩ := Bool.and_eq_true_iff.mp h
  exact ⟨h1, h2, Bool.and_eq_true_iff.mp h⟩
theorem SaysX.fact (c : SaysX fa bs fn K) (i : Nat) {f : He.Fa} (h : fa[i]? = some f := by rfl) : f.ok K = true := List.all_eq_true.mp c.all.1 f (List.mem_of_getElem? h)
theorem SaysX.tru (c : SaysX fa bs fn K) (i : Nat) {b : PySem.W.Frag → Bool} (h : bs[i]? = some b := by rfl) : b K = true := List.all_eq_true.mp c.all.2.1 b (List.mem_of_getElem? h)
theorem SaysX.obs (c : SaysX fa bs fn K) (i : Nat) {d : DefA} (h : fn[i]? = some d := by rfl) : obsA K (d.ad K) = d.val := by
  have e : fn.map (fun d => obsA K (d.ad K)) = fn.map DefA.val := congrArg (fun z : AlX => z.2) c
  have e2 : (fn.map fun d => obsA K (d.ad K))[i]? = (fn.map DefA.val)[i]? := by rw [e]
  rw [List.getElem?_map, List.getElem?_map, h] at e2
  exact Option.some.inj e2
theorem SaysX.def_ (c : SaysX fa bs fn K) (i : Nat) {d : DefA} (h : fn[i]? = some d := by rfl) (hp : d.pl = true := by rfl) : ∃ fd, FunD K d.name d.qual (defArgs d.st) (defBody d.st) (defScope d.st) [] [] (d.ad K) fd := by
  have z : (!d.pl || plainA K (d.ad K) d.qual) = true := List.all_eq_true.mp c.all.2.2.1 d (List.mem_of_getElem? h)
  rw [hp] at z
  exact funA (c.obs i h) z
end
/-! ### the end -/
theorem walkE {l : PySem.W.OpenLaw} {n k : Nat} {q : Program} {loose : List Str} {XP : (Str → Option Value) → Heap → Prop} {YP : World → Heap → Prop} {d : DefRec} {f : FD} {Says : PySem.W.Frag → Prop}
    (hn : l.most = some n) (hn2 : n ≤ sizeLine) (hdf : d.params.defaults = []) (hr : Room k callerA)
    (hY : ∀ (w : World) (h : Heap), YP w h → ∃ K : PySem.W.Frag, K.In h ∧ Says K) (hK : ∀ K, Says K → noListB K = true)
    (O : ∀ (w : World) (K : PySem.W.Frag) (mg : Str → Option Value) (h : Heap), K.In h → h.Ns mainGlobals mg → Says K → ∀ base : Heap, @OkD ⟨w⟩ l.prog w K mg base k d.name 1 f)
    (hf : ∀ ns : List Int, ns.length ≤ n → (∀ z ∈ ns, Builtin.Int.intBits z ≤ 1048576) → f [.dat (.lst (ns.map D.int))] [] = .ok (.dat (.bl true)) []) :
    PySem.W.WalkO q loose XP YP l.row.toRowW d [] (fun f vs => PySem.call f vs) :=
  Att.attach_callB hn hdf fun w s₀ s₁ mg mb fa o pm cd doc a vs ns G Y ho hd hcd hmg hobj hints hlen hbits hg => by
    obtain ⟨K, inK, c⟩ := hY w _ Y
    exact @law_end ⟨w⟩ _ _ _ _ _ _ _ _ _ _ _ _ _ inK G.T.g G.T.b G.T.builtins G.T.nolimit hg (hK K c) hobj hints (Nat.le_trans hlen hn2) hr (fun base _ _ => O w K mg _ inK G.T.g c base) hmg (hf ns hlen hbits)
end DL
end L2

/-! DL45: the jar of a law: its meaning, and what it draws -/
namespace L2
namespace DL
open PySem PySem.Spec PyProof.Rows
section
variable {ρ : Ev} {G : Gh}
theorem opE_ok {op : O2} {ma mb : Ev → M Vl} {x y z : Vl} (h1 : ma ρ G = .ok x G) (h2 : mb ρ G = .ok y G) (h3 : op x y G = some (z, G)) : opE op ma mb ρ G = .ok z G := by
  unfold opE andThen
  rw [h1]
  dsimp only
  rw [h2]
  dsimp only
  rw [h3]
  rfl
theorem call1_ok {f : Vl → Gh → Option (Vl × Gh)} {m : Ev → M Vl} {x z : Vl} (h1 : m ρ G = .ok x G) (h3 : f x G = some (z, G)) : callE (oneO f) (consA m nilA) ρ G = .ok z G := by
  have e : consA m nilA ρ G = .ok [x] G := by
    unfold consA andThen
    rw [h1]
    rfl
  unfold callE andThen
  rw [e]
  dsimp only [oneO]
  rw [h3]
  rfl
theorem vD_ok {i : Nat} {x : Vl} (h : ρ[i]? = some (some x)) : vD i ρ G = .ok x G := by
  unfold vD
  rw [h]
  rfl
theorem setS_ok {i : Nat} {m : Ev → M Vl} {x : Vl} {s : SD} (h : m ρ G = .ok x G) : seqS (setS i m) s ρ G = s (ρ.set i (some x)) G := by
  unfold seqS setS thenS
  rw [h]
theorem bits_le {z : Int} {n : Nat} (h : z.natAbs < 2 ^ n) (hn : n ≤ 1048576) : bits z ≤ 2 ^ 20 := Nat.le_trans (intBits_le_iff.mpr h) hn
theorem mul_ok {i j : Int} (h1 : bits i ≤ 2 ^ 20) (h2 : bits j ≤ 2 ^ 20) : mulO (.dat (.int i)) (.dat (.int j)) G = some (.dat (.int (i * j)), G) := by
  unfold mulO
  dsimp only
  rw [if_pos ⟨h1, h2⟩]
theorem mod_ok {i j : Int} (h : 0 < j) : modO (.dat (.int i)) (.dat (.int j)) G = some (.dat (.int (i % j)), G) := by
  unfold modO
  dsimp only
  rw [if_pos h]
theorem fdiv_ok {i j : Int} (h : 0 < j) (h2 : j < 1073741824) : fdivO (.dat (.int i)) (.dat (.int j)) G = some (.dat (.int (i / j)), G) := by
  unfold fdivO
  dsimp only
  rw [if_pos ⟨h, h2⟩]
theorem pow_ok {i j : Int} (h : 0 ≤ j) (h2 : (bits i : Int) * j ≤ 2 ^ 27) : powO (.dat (.int i)) (.dat (.int j)) G = some (.dat (.int (i ^ j.toNat)), G) := by
  unfold powO
  dsimp only
  rw [if_pos ⟨h, h2⟩]
end
def jarM : FD := runD true 5
    (seqS (setS 2 (ifE (boolD (opE ltO (vD 1) (callE (oneO lenO) (consA (vD 0) nilA)))) (opE ixO (vD 0) (vD 1)) (opE addO (opE mulO (cD (.int 31)) (vD 1)) (cD (.int 17)))))
    (seqS (setS 3 (opE mulO (opE modO (callE (oneO intAO) (consA (callE (oneO absO) (consA (vD 2) nilA)) nilA)) (opE powO (opE powO (cD (.int 10)) (cD (.int 60))) (cD (.int 5)))) (callE (oneO intAO) (consA (opE geO (callE (oneO absO) (consA (vD 2) nilA)) (opE powO (cD (.int 10)) (cD (.int 18)))) nilA))))
    (seqS (setS 4 (callE (oneO intAO) (consA (opE addO (opE addO (opE mulO (opE modO (callE (oneO intAO) (consA (vD 2) nilA)) (cD (.int 2305843009213693951))) (cD (.int 70901))) (opE mulO (opE mulO (cD (.int 8543)) (vD 1)) (vD 1))) (cD (.int 43))) nilA)))
    (retS (lstC (consA (vD 3) (consA (opE modO (vD 4) (cD (.int 2305843009213693921))) (consA (cD (.int 0)) nilA))))))))
def takeM : FD := runD false 5
    (seqS (ifS (boolD (opE gtO (opE ixO (vD 0) (cD (.int 0))) (cD (.int 0)))) (seqS (setS 2 (opE modO (callE (oneO intAO) (consA (opE ixO (vD 0) (cD (.int 0))) nilA)) (vD 1)))
    (seqS (putS (opE fdivO (opE ixO (vD 0) (cD (.int 0))) (vD 1)) (vD 0) (cD (.int 0)))
    (retS (vD 2)))) nextS)
    (seqS (putS (opE addO (opE ixO (vD 0) (cD (.int 2))) (cD (.int 1))) (vD 0) (cD (.int 2)))
    (seqS (setS 3 (opE ixO (lstE (consA (cD (.int 2147483647)) (consA (cD (.int 2147483629)) (consA (cD (.int 2147483587)) (consA (cD (.int 2147483579)) (consA (cD (.int 2147483563)) nilA)))))) (opE modO (callE (oneO intAO) (consA (opE ixO (vD 0) (cD (.int 2))) nilA)) (cD (.int 5)))))
    (seqS (setS 4 (opE modO (callE (oneO intAO) (consA (opE powO (opE addO (opE addO (opE ixO (vD 0) (cD (.int 1))) (opE mulO (opE mulO (cD (.int 99881)) (opE ixO (vD 0) (cD (.int 2)))) (opE ixO (vD 0) (cD (.int 2))))) (cD (.int 73))) (cD (.int 3))) nilA)) (vD 3)))
    (seqS (setS 4 (opE modO (callE (oneO intAO) (consA (opE mulO (vD 4) (opE addO (opE modO (callE (oneO intAO) (consA (vD 4) nilA)) (cD (.int 10009))) (opE mulO (cD (.int 97)) (opE ixO (vD 0) (cD (.int 2)))))) nilA)) (cD (.int 2305843009213693907))))
    (retS (opE modO (callE (oneO intAO) (consA (opE fdivO (vD 4) (cD (.int 89))) nilA)) (vD 1))))))))
def ofM : FD := runD false 2
    (retS (opE ixO (vD 1) (callF 2 takeM (consA (vD 0) (consA (callE (oneO lenO) (consA (vD 1) nilA)) nilA)))))
theorem jarM_ok (ns : List Int) (k : Nat) (hk : k ≤ 1000) (hl : ns.length ≤ 63) : ∃ a b : Int, 0 ≤ b ∧ b < 2305843009213693921 ∧ jarM [.dat (.lst (ns.map .int)), .dat (.int k)] [] = .ok (.ref 0) [.lst [.dat (.int a), .dat (.int b), .dat (.int 0)]] := by
  obtain ⟨ρ0, e0⟩ : ∃ ρ0 : Ev, ρ0 = startE 5 [.dat (.lst (ns.map .int)), .dat (.int k)] := ⟨_, rfl⟩
  have v1 : ∀ G, vD 1 ρ0 G = .ok (.dat (.int k)) G := fun G => by rw [e0]; rfl
  have v0 : ∀ G, vD 0 ρ0 G = .ok (.dat (.lst (ns.map .int))) G := fun G => by rw [e0]; rfl
  have hlen : callE (oneO lenO) (consA (vD 0) nilA) ρ0 [] = .ok (.dat (.int ns.length)) [] := call1_ok (v0 _) (by
    unfold lenO lenN seqKind
    simp)
  have hc : ∃ c : Int, ifE (boolD (opE ltO (vD 1) (callE (oneO lenO) (consA (vD 0) nilA)))) (opE ixO (vD 0) (vD 1)) (opE addO (opE mulO (cD (.int 31)) (vD 1)) (cD (.int 17))) ρ0 [] = .ok (.dat (.int c)) [] := by
    have t : opE ltO (vD 1) (callE (oneO lenO) (consA (vD 0) nilA)) ρ0 [] = .ok (.dat (.bl (decide ((k : Int) < ns.length)))) [] := opE_ok (v1 _) hlen rfl
    unfold ifE boolD
    simp only [andThen, t, asB, DL.ret]
    by_cases hh : (k : Int) < ns.length
    · rw [decide_eq_true hh]
      simp only [if_true]
      have hk2 : k < ns.length := by omega
      refine ⟨ns[k], opE_ok (v0 _) (v1 _) ?_⟩
      unfold ixO atI ixN
      simp [hk2]
    · rw [decide_eq_false hh]
      simp only [Bool.false_eq_true, if_false]
      refine ⟨31 * k + 17, opE_ok (opE_ok rfl (v1 _) (mul_ok (by decide +kernel) (bits_le (n := 20) (by omega) (by decide)))) rfl rfl⟩
  obtain ⟨c, hc⟩ := hc
  have p18 : ∀ (ρ : Ev) (G : Gh), opE powO (cD (.int 10)) (cD (.int 18)) ρ G = .ok (.dat (.int (10 ^ 18))) G := fun ρ G => opE_ok rfl rfl (pow_ok (by decide) (by decide +kernel))
  have p300 : ∀ (ρ : Ev) (G : Gh), opE powO (opE powO (cD (.int 10)) (cD (.int 60))) (cD (.int 5)) ρ G = .ok (.dat (.int ((10 ^ 60) ^ 5))) G := fun ρ G => opE_ok (opE_ok rfl rfl (pow_ok (by decide) (by decide +kernel))) rfl (pow_ok (by decide) (by decide +kernel))
  obtain ⟨ρ1, e1⟩ : ∃ ρ1 : Ev, ρ1 = ρ0.set 2 (some (.dat (.int c))) := ⟨_, rfl⟩
  have w1 : ∀ G, vD 1 ρ1 G = .ok (.dat (.int k)) G := fun G => by rw [e1, e0]; rfl
  have w2 : ∀ G, vD 2 ρ1 G = .ok (.dat (.int c)) G := fun G => by rw [e1, e0]; rfl
  obtain ⟨aa, eaa⟩ : ∃ aa : Int, aa = if c < 0 then -c else c := ⟨_, rfl⟩
  have ab : ∀ G, callE (oneO absO) (consA (vD 2) nilA) ρ1 G = .ok (.dat (.int aa)) G := fun G => call1_ok (w2 _) (by rw [eaa]; rfl)
  have hm : ∃ a : Int, opE mulO (opE modO (callE (oneO intAO) (consA (callE (oneO absO) (consA (vD 2) nilA)) nilA)) (opE powO (opE powO (cD (.int 10)) (cD (.int 60))) (cD (.int 5)))) (callE (oneO intAO) (consA (opE geO (callE (oneO absO) (consA (vD 2) nilA)) (opE powO (cD (.int 10)) (cD (.int 18)))) nilA)) ρ1 [] = .ok (.dat (.int a)) [] := by
    have g : opE geO (callE (oneO absO) (consA (vD 2) nilA)) (opE powO (cD (.int 10)) (cD (.int 18))) ρ1 [] = .ok (.dat (.bl (decide ((10 ^ 18 : Int) ≤ aa)))) [] := opE_ok (ab _) (p18 _ _) rfl
    refine ⟨_, opE_ok (opE_ok (call1_ok (ab _) rfl) (p300 _ _) (mod_ok (by decide +kernel))) (call1_ok g rfl) (mul_ok ?_ ?_)⟩
    · refine bits_le (n := 1000) ?_ (by decide)
      have h1 : (0 : Int) < (10 ^ 60) ^ 5 := by decide +kernel
      have h2 := Int.emod_nonneg aa (Int.ne_of_gt h1)
      have h3 := Int.emod_lt_of_pos aa h1
      have h4 : ((10 : Int) ^ 60) ^ 5 < 2 ^ 1000 := by decide +kernel
      have h5 : ((aa % (10 ^ 60) ^ 5).natAbs : Int) < 2 ^ 1000 := by rw [Int.natAbs_of_nonneg h2]; exact Int.lt_trans h3 h4
      have h6 : ((2 ^ 1000 : Nat) : Int) = (2 : Int) ^ 1000 := by norm_cast
      rw [← h6] at h5
      exact Int.ofNat_lt.mp h5
    · cases decide ((10 ^ 18 : Int) ≤ aa) <;> decide +kernel
  obtain ⟨a, hm⟩ := hm
  obtain ⟨ρ2, e2⟩ : ∃ ρ2 : Ev, ρ2 = ρ1.set 3 (some (.dat (.int a))) := ⟨_, rfl⟩
  have x1 : ∀ G, vD 1 ρ2 G = .ok (.dat (.int k)) G := fun G => by rw [e2, e1, e0]; rfl
  have x2 : ∀ G, vD 2 ρ2 G = .ok (.dat (.int c)) G := fun G => by rw [e2, e1, e0]; rfl
  have hx : ∃ m : Int, callE (oneO intAO) (consA (opE addO (opE addO (opE mulO (opE modO (callE (oneO intAO) (consA (vD 2) nilA)) (cD (.int 2305843009213693951))) (cD (.int 70901))) (opE mulO (opE mulO (cD (.int 8543)) (vD 1)) (vD 1))) (cD (.int 43))) nilA) ρ2 [] = .ok (.dat (.int m)) [] := by
    refine ⟨_, call1_ok (opE_ok (opE_ok (opE_ok (opE_ok (call1_ok (x2 _) rfl) rfl (mod_ok (by decide))) rfl (mul_ok ?_ (by decide +kernel))) (opE_ok (opE_ok rfl (x1 _) (mul_ok (by decide +kernel) ?_)) (x1 _) (mul_ok ?_ ?_)) rfl) rfl rfl) rfl⟩
    · refine bits_le (n := 64) ?_ (by decide)
      have h2 := Int.emod_nonneg c (b := 2305843009213693951) (by decide)
      have h3 := Int.emod_lt_of_pos c (b := 2305843009213693951) (by decide)
      omega
    · exact bits_le (n := 20) (by omega) (by decide)
    · exact bits_le (n := 64) (by omega) (by decide)
    · exact bits_le (n := 20) (by omega) (by decide)
  obtain ⟨m, hx⟩ := hx
  obtain ⟨ρ3, e3⟩ : ∃ ρ3 : Ev, ρ3 = ρ2.set 4 (some (.dat (.int m))) := ⟨_, rfl⟩
  have y3 : ∀ G, vD 3 ρ3 G = .ok (.dat (.int a)) G := fun G => by rw [e3, e2, e1, e0]; rfl
  have y4 : ∀ G, vD 4 ρ3 G = .ok (.dat (.int m)) G := fun G => by rw [e3, e2, e1, e0]; rfl
  have hl3 : lstC (consA (vD 3) (consA (opE modO (vD 4) (cD (.int 2305843009213693921))) (consA (cD (.int 0)) nilA))) ρ3 [] = .ok (.ref 0) [.lst [.dat (.int a), .dat (.int (m % 2305843009213693921)), .dat (.int 0)]] := by
    have q := opE_ok (op := modO) (y4 []) (mb := cD (.int 2305843009213693921)) rfl (mod_ok (by decide))
    have e : consA (vD 3) (consA (opE modO (vD 4) (cD (.int 2305843009213693921))) (consA (cD (.int 0)) nilA)) ρ3 [] = .ok [.dat (.int a), .dat (.int (m % 2305843009213693921)), .dat (.int 0)] [] := by
      simp only [consA, andThen, y3, q, cD, DL.ret, nilA]
    unfold lstC
    simp only [andThen, e]
    rfl
  refine ⟨a, m % 2305843009213693921, Int.emod_nonneg _ (by decide), Int.emod_lt_of_pos _ (by decide), ?_⟩
  unfold jarM runD
  rw [← e0, setS_ok hc, ← e1, setS_ok hm, ← e2, setS_ok hx, ← e3]
  unfold retS thenS
  simp only [hl3]
  rfl
theorem putS_ok {mv mo mi : Ev → M Vl} {v o x : Vl} {s : SD} {ρ : Ev} {G G' : Gh} (h1 : mv ρ G = .ok v G) (h2 : mo ρ G = .ok o G) (h3 : mi ρ G = .ok x G) (h4 : setO o x v G = some G') : seqS (putS mv mo mi) s ρ G = s ρ G' := by
  unfold seqS putS thenS
  rw [h1]
  dsimp only
  rw [h2]
  dsimp only
  rw [h3]
  dsimp only
  rw [h4]
theorem seqIf_ok {t : Ev → M Bool} {s1 s2 s : SD} {ρ : Ev} {G : Gh} {b : Bool} (h : t ρ G = .ok b G) : seqS (ifS t s1 s2) s ρ G = seqS (if b = true then s1 else s2) s ρ G := by
  unfold seqS ifS thenS
  rw [h]
theorem seqRt_ok {s1 s : SD} {ρ : Ev} {G G' : Gh} {x : Vl} (h : s1 ρ G = .rt x G') : seqS s1 s ρ G = .rt x G' := by
  unfold seqS
  rw [h]
theorem takeM_ok (a b c n : Int) (hb0 : 0 ≤ b) (hb1 : b < 2305843009213693921) (hc0 : 0 ≤ c) (hc1 : c < 1000) (hn : 0 < n) (hn2 : n < 1073741824) :
    ∃ a' c' r : Int, 0 ≤ r ∧ r < n ∧ 0 ≤ c' ∧ c' ≤ c + 1 ∧ takeM [.ref 0, .dat (.int n)] [.lst [.dat (.int a), .dat (.int b), .dat (.int c)]] = .ok (.dat (.int r)) [.lst [.dat (.int a'), .dat (.int b), .dat (.int c')]] := by
  obtain ⟨ρ0, e0⟩ : ∃ ρ0 : Ev, ρ0 = startE 5 [.ref 0, .dat (.int n)] := ⟨_, rfl⟩
  have v0 : ∀ G, vD 0 ρ0 G = .ok (.ref 0) G := fun G => by rw [e0]; rfl
  have v1 : ∀ G, vD 1 ρ0 G = .ok (.dat (.int n)) G := fun G => by rw [e0]; rfl
  have i0 : ∀ a b c : Int, ∀ ρ : Ev, (∀ G, vD 0 ρ G = .ok (.ref 0) G) → opE ixO (vD 0) (cD (.int 0)) ρ [.lst [.dat (.int a), .dat (.int b), .dat (.int c)]] = .ok (.dat (.int a)) [.lst [.dat (.int a), .dat (.int b), .dat (.int c)]] := fun a b c ρ h => opE_ok (h _) rfl rfl
  have i1 : ∀ a b c : Int, ∀ ρ : Ev, (∀ G, vD 0 ρ G = .ok (.ref 0) G) → opE ixO (vD 0) (cD (.int 1)) ρ [.lst [.dat (.int a), .dat (.int b), .dat (.int c)]] = .ok (.dat (.int b)) [.lst [.dat (.int a), .dat (.int b), .dat (.int c)]] := fun a b c ρ h => opE_ok (h _) rfl rfl
  have i2 : ∀ a b c : Int, ∀ ρ : Ev, (∀ G, vD 0 ρ G = .ok (.ref 0) G) → opE ixO (vD 0) (cD (.int 2)) ρ [.lst [.dat (.int a), .dat (.int b), .dat (.int c)]] = .ok (.dat (.int c)) [.lst [.dat (.int a), .dat (.int b), .dat (.int c)]] := fun a b c ρ h => opE_ok (h _) rfl rfl
  have tst : opE gtO (opE ixO (vD 0) (cD (.int 0))) (cD (.int 0)) ρ0 [.lst [.dat (.int a), .dat (.int b), .dat (.int c)]] = .ok (.dat (.bl (decide (0 < a)))) [.lst [.dat (.int a), .dat (.int b), .dat (.int c)]] := opE_ok (i0 _ _ _ _ v0) rfl rfl
  have tb : boolD (opE gtO (opE ixO (vD 0) (cD (.int 0))) (cD (.int 0))) ρ0 [.lst [.dat (.int a), .dat (.int b), .dat (.int c)]] = .ok (decide (0 < a)) [.lst [.dat (.int a), .dat (.int b), .dat (.int c)]] := by
    unfold boolD andThen
    rw [tst]
    rfl
  by_cases ha : 0 < a
  · refine ⟨a / n, c, a % n, Int.emod_nonneg _ (Int.ne_of_gt hn), Int.emod_lt_of_pos _ hn, hc0, by omega, ?_⟩
    obtain ⟨ρ1, e1⟩ : ∃ ρ1 : Ev, ρ1 = ρ0.set 2 (some (.dat (.int (a % n)))) := ⟨_, rfl⟩
    have w0 : ∀ G, vD 0 ρ1 G = .ok (.ref 0) G := fun G => by rw [e1, e0]; rfl
    have w1 : ∀ G, vD 1 ρ1 G = .ok (.dat (.int n)) G := fun G => by rw [e1, e0]; rfl
    have w2 : ∀ G, vD 2 ρ1 G = .ok (.dat (.int (a % n))) G := fun G => by rw [e1, e0]; rfl
    unfold takeM runD
    rw [← e0, seqIf_ok tb, decide_eq_true ha, if_pos rfl, seqRt_ok (x := .dat (.int (a % n))) (G' := [.lst [.dat (.int (a / n)), .dat (.int b), .dat (.int c)]]) (by
      rw [setS_ok (opE_ok (call1_ok (i0 _ _ _ _ v0) rfl) (v1 _) (mod_ok hn)), ← e1, putS_ok (opE_ok (i0 _ _ _ _ w0) (w1 _) (fdiv_ok hn hn2)) (w0 _) rfl rfl]
      unfold retS thenS
      simp only [w2]
      rfl)]
    rfl
  · obtain ⟨d, ed⟩ : ∃ d : Int, d = c + 1 := ⟨_, rfl⟩
    have hp : ∃ p : Int, 0 < p ∧ p < 2147483648 ∧ ∀ ρ : Ev, (∀ G, vD 0 ρ G = .ok (.ref 0) G) → opE ixO (lstE (consA (cD (.int 2147483647)) (consA (cD (.int 2147483629)) (consA (cD (.int 2147483587)) (consA (cD (.int 2147483579)) (consA (cD (.int 2147483563)) nilA)))))) (opE modO (callE (oneO intAO) (consA (opE ixO (vD 0) (cD (.int 2))) nilA)) (cD (.int 5))) ρ [.lst [.dat (.int a), .dat (.int b), .dat (.int d)]] = .ok (.dat (.int p)) [.lst [.dat (.int a), .dat (.int b), .dat (.int d)]] := by
      have e5 : ∀ ρ : Ev, (∀ G, vD 0 ρ G = .ok (.ref 0) G) → opE modO (callE (oneO intAO) (consA (opE ixO (vD 0) (cD (.int 2))) nilA)) (cD (.int 5)) ρ [.lst [.dat (.int a), .dat (.int b), .dat (.int d)]] = .ok (.dat (.int (d % 5))) [.lst [.dat (.int a), .dat (.int b), .dat (.int d)]] := fun ρ h => opE_ok (call1_ok (i2 _ _ _ _ h) rfl) rfl (mod_ok (by decide))
      have cs : d % 5 = 0 ∨ d % 5 = 1 ∨ d % 5 = 2 ∨ d % 5 = 3 ∨ d % 5 = 4 := by omega
      rcases cs with z | z | z | z | z <;> rw [z] at e5
      · exact ⟨_, by decide, by decide, fun ρ h => opE_ok rfl (e5 ρ h) rfl⟩
      · exact ⟨_, by decide, by decide, fun ρ h => opE_ok rfl (e5 ρ h) rfl⟩
      · exact ⟨_, by decide, by decide, fun ρ h => opE_ok rfl (e5 ρ h) rfl⟩
      · exact ⟨_, by decide, by decide, fun ρ h => opE_ok rfl (e5 ρ h) rfl⟩
      · exact ⟨_, by decide, by decide, fun ρ h => opE_ok rfl (e5 ρ h) rfl⟩
    obtain ⟨p, hp0, hp1, hp⟩ := hp
    obtain ⟨ρ1, e1⟩ : ∃ ρ1 : Ev, ρ1 = ρ0.set 3 (some (.dat (.int p))) := ⟨_, rfl⟩
    have w0 : ∀ G, vD 0 ρ1 G = .ok (.ref 0) G := fun G => by rw [e1, e0]; rfl
    have w3 : ∀ G, vD 3 ρ1 G = .ok (.dat (.int p)) G := fun G => by rw [e1, e0]; rfl
    have dd0 : 0 ≤ d * d := Int.mul_nonneg (by omega) (by omega)
    have dd1 : d * d ≤ 1000 * 1000 := Int.mul_le_mul (by omega) (by omega) (by omega) (by omega)
    have ea : (99881 * d) * d = 99881 * (d * d) := Int.mul_assoc _ _ _
    have hm : ∃ m : Int, 0 ≤ m ∧ m < 2147483648 ∧ opE modO (callE (oneO intAO) (consA (opE powO (opE addO (opE addO (opE ixO (vD 0) (cD (.int 1))) (opE mulO (opE mulO (cD (.int 99881)) (opE ixO (vD 0) (cD (.int 2)))) (opE ixO (vD 0) (cD (.int 2))))) (cD (.int 73))) (cD (.int 3))) nilA)) (vD 3) ρ1 [.lst [.dat (.int a), .dat (.int b), .dat (.int d)]] = .ok (.dat (.int m)) [.lst [.dat (.int a), .dat (.int b), .dat (.int d)]] := by
      refine ⟨(b + 99881 * d * d + 73) ^ (Int.toNat 3) % p, Int.emod_nonneg _ (Int.ne_of_gt hp0), Int.lt_trans (Int.emod_lt_of_pos _ hp0) hp1, opE_ok (call1_ok (opE_ok (opE_ok (opE_ok (i1 _ _ _ _ w0) (opE_ok (opE_ok rfl (i2 _ _ _ _ w0) (mul_ok (by decide +kernel) ?_)) (i2 _ _ _ _ w0) (mul_ok ?_ ?_)) rfl) rfl rfl) rfl (pow_ok (by decide) ?_)) rfl) (w3 _) (mod_ok hp0)⟩
      · exact bits_le (n := 20) (by omega) (by decide)
      · exact bits_le (n := 40) (by omega) (by decide)
      · exact bits_le (n := 20) (by omega) (by decide)
      · have z : bits (b + 99881 * d * d + 73) ≤ 64 := intBits_le_iff.mpr (by rw [ea]; omega)
        omega
    obtain ⟨m, hm0, hm1, hm⟩ := hm
    obtain ⟨ρ2, e2⟩ : ∃ ρ2 : Ev, ρ2 = ρ1.set 4 (some (.dat (.int m))) := ⟨_, rfl⟩
    have x0 : ∀ G, vD 0 ρ2 G = .ok (.ref 0) G := fun G => by rw [e2, e1, e0]; rfl
    have x4 : ∀ G, vD 4 ρ2 G = .ok (.dat (.int m)) G := fun G => by rw [e2, e1, e0]; rfl
    have hq : ∃ q : Int, opE modO (callE (oneO intAO) (consA (opE mulO (vD 4) (opE addO (opE modO (callE (oneO intAO) (consA (vD 4) nilA)) (cD (.int 10009))) (opE mulO (cD (.int 97)) (opE ixO (vD 0) (cD (.int 2)))))) nilA)) (cD (.int 2305843009213693907)) ρ2 [.lst [.dat (.int a), .dat (.int b), .dat (.int d)]] = .ok (.dat (.int q)) [.lst [.dat (.int a), .dat (.int b), .dat (.int d)]] := by
      refine ⟨_, opE_ok (call1_ok (opE_ok (x4 _) (opE_ok (opE_ok (call1_ok (x4 _) rfl) rfl (mod_ok (by decide))) (opE_ok rfl (i2 _ _ _ _ x0) (mul_ok (by decide +kernel) ?_)) rfl) (mul_ok ?_ ?_)) rfl) rfl (mod_ok (by decide))⟩
      · exact bits_le (n := 20) (by omega) (by decide)
      · exact bits_le (n := 40) (by omega) (by decide)
      · exact bits_le (n := 40) (by omega) (by decide)
    obtain ⟨q, hq⟩ := hq
    obtain ⟨ρ3, e3⟩ : ∃ ρ3 : Ev, ρ3 = ρ2.set 4 (some (.dat (.int q))) := ⟨_, rfl⟩
    have y1 : ∀ G, vD 1 ρ3 G = .ok (.dat (.int n)) G := fun G => by rw [e3, e2, e1, e0]; rfl
    have y4 : ∀ G, vD 4 ρ3 G = .ok (.dat (.int q)) G := fun G => by rw [e3, e2, e1, e0]; rfl
    have fin : ∀ G, opE modO (callE (oneO intAO) (consA (opE fdivO (vD 4) (cD (.int 89))) nilA)) (vD 1) ρ3 G = .ok (.dat (.int (q / 89 % n))) G := fun G => opE_ok (call1_ok (opE_ok (y4 _) rfl (fdiv_ok (by decide) (by decide))) rfl) (y1 _) (mod_ok hn)
    refine ⟨a, d, q / 89 % n, Int.emod_nonneg _ (Int.ne_of_gt hn), Int.emod_lt_of_pos _ hn, by omega, by omega, ?_⟩
    unfold takeM runD
    rw [← e0, seqIf_ok tb, decide_eq_false ha, if_neg Bool.false_ne_true]
    show (match seqS (putS _ _ _) _ ρ0 [.lst [.dat (.int a), .dat (.int b), .dat (.int c)]] with
      | .rt x G' => _
      | .nx _ G' => _
      | .ex c d _ G' => _
      | _ => _) = _
    rw [putS_ok (opE_ok (i2 _ _ _ _ v0) rfl rfl) (v0 _) rfl rfl]
    show (match seqS _ _ ρ0 [.lst [.dat (.int a), .dat (.int b), .dat (.int (c + 1))]] with
      | .rt x G' => _
      | .nx _ G' => _
      | .ex c d _ G' => _
      | _ => _) = _
    rw [← ed, setS_ok (hp _ v0), ← e1, setS_ok hm, ← e2, setS_ok hq, ← e3]
    unfold retS thenS
    simp only [fin]
    rfl
theorem ofM_ok (a b c : Int) (l : List D) (hb0 : 0 ≤ b) (hb1 : b < 2305843009213693921) (hc0 : 0 ≤ c) (hc1 : c < 1000) (hl : 0 < l.length) (hl2 : l.length < 1073741824) :
    ∃ (a' c' : Int) (d : D), d ∈ l ∧ 0 ≤ c' ∧ c' ≤ c + 1 ∧ ofM [.ref 0, .dat (.lst l)] [.lst [.dat (.int a), .dat (.int b), .dat (.int c)]] = .ok (.dat d) [.lst [.dat (.int a'), .dat (.int b), .dat (.int c')]] := by
  obtain ⟨a', c', r, h1, h2, h3, h4, h5⟩ := takeM_ok a b c l.length hb0 hb1 hc0 hc1 (by omega) (by omega)
  have hr : r.toNat < l.length := by omega
  refine ⟨a', c', l[r.toNat], List.getElem_mem hr, h3, h4, ?_⟩
  obtain ⟨ρ0, e0⟩ : ∃ ρ0 : Ev, ρ0 = startE 2 [.ref 0, .dat (.lst l)] := ⟨_, rfl⟩
  have v0 : ∀ G, vD 0 ρ0 G = .ok (.ref 0) G := fun G => by rw [e0]; rfl
  have v1 : ∀ G, vD 1 ρ0 G = .ok (.dat (.lst l)) G := fun G => by rw [e0]; rfl
  have ln : ∀ G, callE (oneO lenO) (consA (vD 1) nilA) ρ0 G = .ok (.dat (.int l.length)) G := fun G => call1_ok (v1 _) (by
    unfold lenO lenN seqKind
    simp)
  have ar : consA (vD 0) (consA (callE (oneO lenO) (consA (vD 1) nilA)) nilA) ρ0 [.lst [.dat (.int a), .dat (.int b), .dat (.int c)]] = .ok [.ref 0, .dat (.int l.length)] [.lst [.dat (.int a), .dat (.int b), .dat (.int c)]] := by
    simp only [consA, andThen, v0, nilA, DL.ret, ln]
  have cl : callF 2 takeM (consA (vD 0) (consA (callE (oneO lenO) (consA (vD 1) nilA)) nilA)) ρ0 [.lst [.dat (.int a), .dat (.int b), .dat (.int c)]] = .ok (.dat (.int r)) [.lst [.dat (.int a'), .dat (.int b), .dat (.int c')]] := by
    unfold callF
    simp only [andThen, ar]
    unfold callAt
    rw [if_pos (show [Vl.ref 0, Vl.dat (D.int l.length)].length = 2 from rfl)]
    show (if ([0] : List Nat).Nodup then back _ [0] (takeM [.ref 0, .dat (.int l.length)] [.lst [.dat (.int a), .dat (.int b), .dat (.int c)]]) else Rs.no) = _
    rw [if_pos (by decide), h5]
    rfl
  have ix : opE ixO (vD 1) (callF 2 takeM (consA (vD 0) (consA (callE (oneO lenO) (consA (vD 1) nilA)) nilA))) ρ0 [.lst [.dat (.int a), .dat (.int b), .dat (.int c)]] = .ok (.dat l[r.toNat]) [.lst [.dat (.int a'), .dat (.int b), .dat (.int c')]] := by
    unfold opE
    simp only [andThen, v1, cl]
    unfold ixO atI ixN
    simp [h1, hr, h2]
    rfl
  unfold ofM runD
  rw [← e0]
  unfold retS thenS
  simp only [ix]
  rfl
/-! ### calls of the jar's defs -/
abbrev Jr (a b c : Int) : GO := .lst [.dat (.int a), .dat (.int b), .dat (.int c)]
theorem callJar {m : Ev → M (List Vl)} {ρ : Ev} {G : Gh} {ns : List Int} {k : Nat} (hk : k ≤ 1000) (hl : ns.length ≤ 63) (h : m ρ G = .ok [.dat (.lst (ns.map .int)), .dat (.int k)] G) :
    ∃ a b : Int, 0 ≤ b ∧ b < 2305843009213693921 ∧ callF 2 jarM m ρ G = .ok (.ref G.length) (G ++ [Jr a b 0]) := by
  obtain ⟨a, b, h1, h2, h3⟩ := jarM_ok ns k hk hl
  refine ⟨a, b, h1, h2, ?_⟩
  unfold callF
  simp only [andThen, h]
  unfold callAt
  rw [if_pos (show [Vl.dat (D.lst (ns.map D.int)), Vl.dat (D.int k)].length = 2 from rfl)]
  show (if ([] : List Nat).Nodup then back G [] (jarM [.dat (.lst (ns.map .int)), .dat (.int k)] []) else Rs.no) = _
  rw [if_pos (by decide), h3]
  rfl
theorem pick_last (G : Gh) (go : GO) : (G ++ [go])[G.length]? = some go := by simp
theorem set_last (G : Gh) (go go' : GO) : (G ++ [go]).set G.length go' = G ++ [go'] := by
  rw [List.set_append]
  simp
theorem callOf {m : Ev → M (List Vl)} {ρ : Ev} {G : Gh} {a b c : Int} {l : List D} (hb0 : 0 ≤ b) (hb1 : b < 2305843009213693921) (hc0 : 0 ≤ c) (hc1 : c < 1000) (hl : 0 < l.length) (hl2 : l.length < 1073741824) (h : m ρ (G ++ [Jr a b c]) = .ok [.ref G.length, .dat (.lst l)] (G ++ [Jr a b c])) :
    ∃ (a' c' : Int) (d : D), d ∈ l ∧ 0 ≤ c' ∧ c' ≤ c + 1 ∧ callF 2 ofM m ρ (G ++ [Jr a b c]) = .ok (.dat d) (G ++ [Jr a' b c']) := by
  obtain ⟨a', c', d, h1, h2, h3, h4⟩ := ofM_ok a b c l hb0 hb1 hc0 hc1 hl hl2
  refine ⟨a', c', d, h1, h2, h3, ?_⟩
  unfold callF
  simp only [andThen, h]
  unfold callAt
  rw [if_pos (show [Vl.ref G.length, Vl.dat (D.lst l)].length = 2 from rfl)]
  have e : mapO (pickOne (G ++ [Jr a b c])) (refsOf [Vl.ref G.length, Vl.dat (D.lst l)]) = some [Jr a b c] := by
    show mapO (pickOne (G ++ [Jr a b c])) [G.length] = _
    unfold mapO pickOne
    rw [pick_last]
    rfl
  rw [e]
  show (if ([G.length] : List Nat).Nodup then back (G ++ [Jr a b c]) [G.length] (ofM [.ref 0, .dat (.lst l)] [Jr a b c]) else Rs.no) = _
  rw [if_pos (by simp), h4]
  unfold back
  dsimp only
  rw [if_pos (show [Jr a' b c'].all flatGO = true from rfl), if_pos (show [Jr a' b c'].length = [G.length].length from rfl)]
  show Rs.ok _ ((G ++ [Jr a b c]).set G.length (Jr a' b c')) = _
  rw [set_last]
/-- a call of data -/
theorem callDat {n : Nat} {f : FD} {m : Ev → M (List Vl)} {ρ : Ev} {G : Gh} {ds : List D} {d : D} (hn : ds.length = n) (h : m ρ G = .ok (ds.map .dat) G) (hf : f (ds.map .dat) [] = .ok (.dat d) []) : callF n f m ρ G = .ok (.dat d) G := by
  have r1 : ∀ ds : List D, refsOf (ds.map Vl.dat) = [] := fun ds => by
    induction ds with
    | nil => rfl
    | cons d ds ih => exact ih
  have r2 : ∀ (ds : List D) (n : Nat), renum n (ds.map Vl.dat) = ds.map Vl.dat := fun ds => by
    induction ds with
    | nil => intro n; rfl
    | cons d ds ih => intro n; show Vl.dat d :: renum n (ds.map Vl.dat) = _; rw [ih]; rfl
  unfold callF
  simp only [andThen, h]
  unfold callAt
  rw [if_pos (by rw [List.length_map]; exact hn), r1, r2]
  show (if ([] : List Nat).Nodup then back G [] (f (ds.map Vl.dat) []) else Rs.no) = _
  rw [if_pos (by decide), hf]
  rfl
/-- a walk over a range whose turns all go on -/
theorem loop_ok {body : SD} {g : GD} {S : Src} (I : Ev → Prop) (hS : ∀ G, S.fin G = true) (hb : ∀ t ρ G, t < S.n → I ρ → ∃ x ρ1, S.item t G = some x ∧ g x ρ = some ρ1 ∧ ∃ ρ2 G2, body ρ1 G = .nx ρ2 G2 ∧ I ρ2) :
    ∀ k t ρ G, t + k = S.n → I ρ → ∃ ρ2 G2, loopS body g S k t ρ G = .nx ρ2 G2 ∧ I ρ2 := by
  intro k
  induction k with
  | zero =>
    intro t ρ G ht hI
    refine ⟨ρ, G, ?_, hI⟩
    unfold loopS
    rw [hS, if_pos rfl]
  | succ k ih =>
    intro t ρ G ht hI
    obtain ⟨x, ρ1, h1, h2, ρ2, G2, h3, h4⟩ := hb t ρ G (by omega) hI
    obtain ⟨ρ3, G3, h5, h6⟩ := ih (t + 1) ρ2 G2 (by omega) h4
    refine ⟨ρ3, G3, ?_, h6⟩
    unfold loopS
    simp only [h1, h2, h3]
    exact h5
/-! ### how many cells are looked at -/
theorem consA_ok {m : Ev → M Vl} {r : Ev → M (List Vl)} {ρ : Ev} {G : Gh} {x : Vl} {xs : List Vl} (h1 : m ρ G = .ok x G) (h2 : r ρ G = .ok xs G) : consA m r ρ G = .ok (x :: xs) G := by
  unfold consA andThen
  rw [h1]
  dsimp only
  rw [h2]
  rfl
theorem call2_ok {f : Vl → Vl → Gh → Option (Vl × Gh)} {m : Ev → M (List Vl)} {ρ : Ev} {G : Gh} {x y z : Vl} (h : m ρ G = .ok [x, y] G) (h3 : f x y G = some (z, G)) : callE (twoO f) m ρ G = .ok z G := by
  unfold callE andThen
  rw [h]
  dsimp only [twoO]
  rw [h3]
  rfl
def manyS : Ev → M Src := rng1S (consA (callE (twoO maxO) (consA (cD (.int 1)) (consA (callE (twoO minO) (consA (cD (.int 3)) (consA (callE (oneO lenO) (consA (vD 0) nilA)) nilA))) nilA))) nilA)
theorem manyS_ok {ns : List Int} {ρ : Ev} (v0 : vD 0 ρ [] = .ok (.dat (.lst (ns.map .int))) []) : ∃ n : Nat, n ≤ 3 ∧ manyS ρ [] = .ok (rngS 0 n) [] := by
  have ln : callE (oneO lenO) (consA (vD 0) nilA) ρ [] = .ok (.dat (.int ns.length)) [] := call1_ok v0 (by
    unfold lenO lenN seqKind
    simp)
  have mn : ∃ q : Int, q ≤ 3 ∧ callE (twoO minO) (consA (cD (.int 3)) (consA (callE (oneO lenO) (consA (vD 0) nilA)) nilA)) ρ [] = .ok (.dat (.int q)) [] := ⟨if (ns.length : Int) < 3 then ns.length else 3, by split <;> omega, call2_ok (consA_ok rfl (consA_ok ln rfl)) rfl⟩
  obtain ⟨q, hq, mn⟩ := mn
  have mx : ∃ p : Int, 0 ≤ p ∧ p ≤ 3 ∧ callE (twoO maxO) (consA (cD (.int 1)) (consA (callE (twoO minO) (consA (cD (.int 3)) (consA (callE (oneO lenO) (consA (vD 0) nilA)) nilA))) nilA)) ρ [] = .ok (.dat (.int p)) [] := ⟨if q > 1 then q else 1, by split <;> omega, by split <;> omega, call2_ok (consA_ok rfl (consA_ok mn rfl)) rfl⟩
  obtain ⟨p, hp0, hp, mx⟩ := mx
  refine ⟨p.toNat, by omega, ?_⟩
  unfold manyS rng1S andThen
  rw [consA_ok mx rfl]
  dsimp only
  rw [if_pos (by omega)]
  rfl
end DL
end L2

/-! DL46: tuple * int; walks over a dict by a path -/
namespace L2
namespace DL
open PySem PySem.Spec PyProof.Rows
variable [HasW]
theorem tmul_same (l : Addr) (items : Array Value) (n : Nat) (dd : Option Addr) (sl : Array (Option Value)) (x : Int) (u : Tok) (c0 : (decide (x < -(2 ^ 63)) || decide (x ≥ 2 ^ 63)) = false) (c1 : (items.isEmpty || x == 1) = true) :
    Meets (Builtin.«tuple.__mul__» ⟨[.ref l, .int x u], []⟩) (fun _ R s => s.heap.get? l = some { cls := .type "tuple", dict := dd, data := .seq items n, slots := sl } ∧ R (.ok (.ret (Value.ref l))) s) :=
  .of_wp fun prog w A R s h => by
    obtain ⟨hp, g, d, tk, os⟩ := s; obtain ⟨hl, h⟩ := h
    have f1 := AutoSeq1.idx_int
    wp_walk using wpAny_loadPart' hl
    repeat (first
      | (refine wpAny_ite_false (decide_eq_false (by rw [c0]; exact Bool.false_ne_true)) ?_; wp_walk using wpAny_loadPart' hl)
      | (refine wpAny_ite_true (decide_eq_true (by rw [c1])) ?_; wp_walk using wpAny_loadPart' hl))
    exact ⟨_, rfl, h⟩
theorem tmul_none (l : Addr) (items : Array Value) (n : Nat) (dd : Option Addr) (sl : Array (Option Value)) (x : Int) (u : Tok) (c0 : (decide (x < -(2 ^ 63)) || decide (x ≥ 2 ^ 63)) = false) (c1 : (items.isEmpty || x == 1) = false) (c2 : (decide (x ≤ 0) || items.isEmpty) = true) :
    Meets (Builtin.«tuple.__mul__» ⟨[.ref l, .int x u], []⟩) (fun _ R s => s.heap.get? l = some { cls := .type "tuple", dict := dd, data := .seq items n, slots := sl } ∧ R (.ok (.ret (Value.ref s.heap.objs.size))) { s with heap := s.heap.push { cls := Value.type "tuple", data := Data.seq #[] }, toks := s.toks }) :=
  .of_wp fun prog w A R s h => by
    obtain ⟨hp, g, d, tk, os⟩ := s; obtain ⟨hl, h⟩ := h
    have f1 := AutoSeq1.idx_int
    wp_walk using wpAny_loadPart' hl
    repeat (first
      | (refine wpAny_ite_false (decide_eq_false (by rw [c0]; exact Bool.false_ne_true)) ?_; wp_walk using wpAny_loadPart' hl)
      | (refine wpAny_ite_false (decide_eq_false (by rw [c1]; exact Bool.false_ne_true)) ?_; wp_walk using wpAny_loadPart' hl)
      | (refine wpAny_ite_true (decide_eq_true (by rw [c2])) ?_; wp_walk using wpAny_loadPart' hl))
    exact ⟨_, rfl, h⟩
def mulT : O2 := fun x y G => match x, y with
  | .dat (.tup l), .dat (.int k) => if l.isEmpty = false ∧ -1000 ≤ k ∧ k ≤ 1000 ∧ l.length ≤ 1000 then some (.dat (.tup (List.replicate k.toNat l).flatten), G) else none
  | _, _ => none
section
variable {X : Cx}
theorem ol_mulT : OpL X (binaryOp .Mult) mulT := by
  intro pins s σ H x y v u Q hd as G a b I rx ry w ra rb h
  unfold mulT at h
  split at h
  · rename_i l k
    split at h
    · rename_i hz
      obtain ⟨hz0, hz1, hz2, hz3⟩ := hz
      cases rb
      cases ra with
      | @tup _ p xs h1 h2 =>
        have len := h2.length
        have hne : xs ≠ [] := fun e => by
          rw [e] at len
          have : l = [] := List.eq_nil_of_length_eq_zero len
          rw [this] at hz0
          cases hz0
        by_cases k2 : 2 ≤ k
        · refine op_repT pins s σ H _ _ v u Q I rx ry ⟨p, k, xs, rfl, rfl, Fz.sqT h1, hne, k2, hz2, by omega, fun q hq => ResO.new w h hq fun F k' f => .tup (SqT.of f) ?_⟩
          have hm := RelDs.mono k' h2
          have : ∀ n : Nat, RelDs X.K F (List.replicate n l).flatten (List.replicate n xs).flatten := fun n => by
            induction n with
            | zero => exact .nil
            | succ n ih => simp only [List.replicate_succ, List.flatten_cons]; exact hm.append ih
          exact this _
        · cases rx
          obtain ⟨t, rfl⟩ := ry
          obtain ⟨its, r, ⟨⟨cls, dd, data, sl⟩, ho, hc, n, hd'⟩, hs⟩ := I.tuple (Fz.sqT h1)
          dsimp only at hc hd'
          subst hc hd'
          have le := r.length
          have hi : its.toArray.isEmpty = false := by
            cases its with
            | nil => exact absurd (List.eq_nil_of_length_eq_zero le) hne
            | cons a b => rfl
          have c0 : (decide (k < -(2 ^ 63)) || decide (k ≥ 2 ^ 63)) = false := by rw [decide_eq_false (by omega), decide_eq_false (by omega)]; rfl
          by_cases k1 : k = 1
          · subst k1
            have e1 : (List.replicate (Int.toNat 1) l).flatten = l := by simp
            rw [e1] at h
            refine wpAny_binaryOp_repeat_ref (T := "tuple") (U := "int") (by decide) ⟨_, ho, rfl⟩ (fun s' => typeIs_int s' 1 t) noFill_tuple_mul F.fills_int_mul F.slot_int_rmul repeat_tuple F.slot_int_index.lookup
              (call_meets F.slot_int_rmul (typeIs_int s 1 t) F.entry_int_rmul (F.args_int_rmul_2 _ _) (int_rmul_tuple 1 t p its.toArray n dd sl) ⟨ho, rfl, ⟨_, ho, rfl⟩, call_meets F.slot_tuple_mul ⟨_, ho, rfl⟩ F.entry_tuple_mul (F.args_tuple_mul_2 _ _) (tmul_same p its.toArray n dd sl 1 t c0 (by rw [hi]; rfl)) ⟨ho, ?_⟩⟩)
            exact ⟨.ref p, H, I, rfl, ResO.dat w (RelD.tup h1 h2) h⟩
          · have e1 : k.toNat = 0 := by omega
            rw [e1] at h
            refine wpAny_binaryOp_repeat_ref (T := "tuple") (U := "int") (by decide) ⟨_, ho, rfl⟩ (fun s' => typeIs_int s' k t) noFill_tuple_mul F.fills_int_mul F.slot_int_rmul repeat_tuple F.slot_int_index.lookup
              (call_meets F.slot_int_rmul (typeIs_int s k t) F.entry_int_rmul (F.args_int_rmul_2 _ _) (int_rmul_tuple k t p its.toArray n dd sl) ⟨ho, rfl, ⟨_, ho, rfl⟩, call_meets F.slot_tuple_mul ⟨_, ho, rfl⟩ F.entry_tuple_mul (F.args_tuple_mul_2 _ _)
                (tmul_none p its.toArray n dd sl k t c0 (by rw [hi, Bool.false_or]; exact beq_eq_false_iff_ne.mpr k1) (by rw [decide_eq_true (by omega)]; rfl)) ⟨ho, ?_⟩⟩)
            exact ⟨.ref s.heap.objs.size, _, I.laid (t' := s.toks) (o := .tup []) (fun b ob q => Heap.get?_push_of_some _ q) (Nat.le_refl _) ⟨Nat.zero_le _, [], .nil, IsTup.new _ _⟩, rfl, ResO.new w h (I.hok.fresh (Nat.le_refl _)) fun F k' f => .tup (SqT.of f) .nil⟩
    · exact h.elim
  · exact h.elim
end
/-! ### a dict by a path of two fields -/
theorem lookupD {K : PySem.W.Frag} {F : Hp} {f : Str} : ∀ {fs : List (Str × D)} {vs : List (Str × V)} {d : D}, fs.map (·.1) = vs.map (·.1) → RelDs K F (fs.map (·.2)) (vs.map (·.2)) → fs.lookup f = some d → ∃ v, vs.lookup f = some v ∧ RelD K F d v
  | [], _, _, _, _, h => by cases h
  | _ :: _, [], _, e, _, _ => by simp at e
  | (a, x) :: fs, (b, v) :: vs, d, e, r, h => by
    simp only [List.map_cons, List.cons.injEq] at e r
    obtain ⟨rfl, e⟩ := e
    cases r with
    | cons r1 r2 =>
      by_cases q : f = a
      · subst q
        rw [List.lookup_cons_self] at h ⊢
        cases h
        exact ⟨v, rfl, r1⟩
      · rw [List.lookup_cons, beq_false_of_ne q] at h ⊢
        exact lookupD e r2 h
def dpath (j : Nat) (c1 f1 c2 f2 : Str) (ρ : Ev) : Option (List (D × D)) := match ρ[j]? with
  | some (some (.dat (.obj c fs))) => if c = c1 then (match fs.lookup f1 with
    | some (.obj c' gs) => if c' = c2 then (match gs.lookup f2 with
      | some (.dct l) => some l
      | _ => none) else none
    | _ => none) else none
  | _ => none
def dS2 (Sd : List (D × D) → List D) (j : Nat) (c1 f1 c2 f2 : Str) : Ev → M Src := fun ρ G => match dpath j c1 f1 c2 f2 ρ with
  | some l => .ok (fixS (Sd l)) G
  | none => .no
def PathAt (K : PySem.W.Frag) (j : Nat) (c1 f1 c2 f2 : Str) (σ : St) (H : Hp) (d : Addr) : Prop := ∃ a1 dx1 vs1 a2 dx2 vs2, σ[j]? = some (some (.ref a1)) ∧ H a1 = some (.ins (He.ga K c1) dx1 vs1) ∧ vs1.lookup f1 = some (.ref a2) ∧ H a2 = some (.ins (He.ga K c2) dx2 vs2) ∧ vs2.lookup f2 = some (.ref d)
theorem path_of {K : PySem.W.Frag} {hd as : List Addr} {ρ : Ev} {G : Gh} {σ : St} {H : Hp} {j : Nat} {c1 f1 c2 f2 : Str} {l : List (D × D)} (a : At K hd as ρ G σ H) (h : dpath j c1 f1 c2 f2 ρ = some l) :
    ∃ d kvs, PathAt K j c1 f1 c2 f2 σ H d ∧ Rd (Fz hd as G H) d (.dK kvs) ∧ l.map (·.1) = kvs.map (fun p => keyD p.1) ∧ RelDs K (Fz hd as G H) (l.map (·.2)) (kvs.map (·.2)) := by
  unfold dpath at h
  split at h
  · rename_i c fs ej
    split at h
    · rename_i hc
      subst hc
      split at h
      · rename_i c' gs e1
        split at h
        · rename_i hc'
          subst hc'
          split at h
          · rename_i m e2
            cases h
            obtain ⟨v, hv, rv⟩ := a.slot j _ ej
            cases (show RelD K (Fz hd as G H) (.obj c fs) v from rv) with
            | @obj _ _ a1 dx1 vs1 g1 g2 g3 =>
              obtain ⟨v2, k1, k2⟩ := lookupD g2 g3 e1
              cases k2 with
              | @obj _ _ a2 dx2 vs2 q1 q2 q3 =>
                obtain ⟨v3, k3, k4⟩ := lookupD q2 q3 e2
                cases k4 with
                | @dct _ d kvs t1 t2 t3 => exact ⟨d, kvs, ⟨a1, dx1, vs1, a2, dx2, vs2, hv, Fz.of g1, k1, Fz.of q1, k3⟩, t1, t2, t3⟩
          · cases h
        · cases h
      · cases h
    · cases h
  · cases h
theorem PathAt.lock {K : PySem.W.Frag} {j : Nat} {c1 f1 c2 f2 : Str} {σ : St} {H : Hp} {d : Addr} {kvs : List (Key × V)} {o : HO} (p : PathAt K j c1 f1 c2 f2 σ H d) (h : H d = some (.dK kvs)) : PathAt K j c1 f1 c2 f2 σ (upd H d o) d := by
  obtain ⟨a1, dx1, vs1, a2, dx2, vs2, h1, h2, h3, h4, h5⟩ := p
  refine ⟨a1, dx1, vs1, a2, dx2, vs2, h1, ?_, h3, ?_, h5⟩
  · rw [upd_ne (fun e => by rw [e, h] at h2; cases h2)]; exact h2
  · rw [upd_ne (fun e => by rw [e, h] at h4; cases h4)]; exact h4
/-- a walk over the dict at the end of the path -/
structure DP (X : Cx) (tg iter : Expr) (j : Nat) (c1 f1 c2 f2 : Str) (Sd : List (D × D) → List D) : Prop where
  ex : ∃ (wi : TI) (It : Addr → Obj → List (Key × V) → It), PI X tg iter wi ∧
    (∀ (σ : St) (H : Hp) (d : Addr) (od : Obj) (kvs : List (Key × V)) (R : L2.It → Hp → Prop), PathAt X.K j c1 f1 c2 f2 σ H d → H d = some (.frz od (.dK kvs)) → R (It d od kvs) H → wi σ H R) ∧
    ∀ (K : PySem.W.Frag) (hd as : List Addr) (G : Gh) (H : Hp) (d : Addr) (od : Obj) (kvs : List (Key × V)) (l : List (D × D)), Fz hd as G H d = some (.frz od (.dK kvs)) → l.map (·.1) = kvs.map (fun p => keyD p.1) → RelDs K (Fz hd as G H) (l.map (·.2)) (kvs.map (·.2)) → SrcOk K hd as G H (fixS (Sd l)) (It d od kvs)
section
variable {X : Cx} {j : Nat} {x c1 f1 c2 f2 : Str} {p p1 p2 apos cpos : Pos}
theorem dp_items {elts : List Expr} {kk : Nat} {tpos : Pos} (hc1 : Cls X.K (He.ga X.K c1)) (hn1 : NoAttr X.K (He.ga X.K c1) f1) (hc2 : Cls X.K (He.ga X.K c2)) (hn2 : NoAttr X.K (He.ga X.K c2) f2) (hN : X.N[j]? = some x := by rfl) (hv : Vis X.env.scope x := by first | exact Or.inl rfl | exact Or.inr (Or.inl rfl) | exact Or.inr (Or.inr rfl)) (hd : (x == ("__debug__" : Str)) = false := by decide) (hcd : (x == ("__classdict__" : Str)) = false := by decide)
    (b1 : attributeBase (.Name x p) f1 X.env (eval (.Name x p) X.env) = eval (.Name x p) X.env := by rfl) (b2 : attributeBase (.Attribute (.Name x p) f1 p1) f2 X.env (eval (.Attribute (.Name x p) f1 p1) X.env) = eval (.Attribute (.Name x p) f1 p1) X.env := by rfl)
    (hb : attributeBase (.Attribute (.Attribute (.Name x p) f1 p1) f2 p2) "items" X.env (eval (.Attribute (.Attribute (.Name x p) f1 p1) f2 p2) X.env) = eval (.Attribute (.Attribute (.Name x p) f1 p1) f2 p2) X.env := by rfl) (hl : (apos.endLine == cpos.line) = true := by rfl) :
    DP X (.Tuple elts kk tpos) (.Call (.Attribute (.Attribute (.Attribute (.Name x p) f1 p1) f2 p2) "items" apos) [] [] cpos) j c1 f1 c2 f2 itemsOf :=
  ⟨_, Iti, pi_items (pe_fld (pe_fld (pe_var hN hv hd hcd) b1) b2) hb hl, fun σ H d od kvs R ⟨a1, dx1, vs1, a2, dx2, vs2, h1, h2, h3, h4, h5⟩ hH r => ⟨.ref a1, h1, a1, _, dx1, vs1, .ref a2, rfl, h2, hc1, hn1, h3, a2, _, dx2, vs2, .ref d, rfl, h4, hc2, hn2, h5, d, od, kvs, rfl, hH, r⟩, fun K hd as G H d od kvs l f0 e r => src_items f0 e r⟩
end
section
variable {X : Cx} {W : WX} {pos : Pos} {elt tg iter : Expr} {ifs : List Expr} {scope : Scope} {own : List (Str × Nat)} {g : GD} {t : Ev → M Bool} {m : Ev → M Vl} {js : List Nat} {f : List Vl → M Vl} {j : Nat} {c1 f1 c2 f2 : Str} {Sd : List (D × D) → List D}
theorem q_lcP (hf : Ends1 f) (ho : okF f) (dw : DP X tg iter j c1 f1 c2 f2 Sd) (hj : ∀ j ∈ js, j ∈ own.map (·.2)) (hc : X.calm = true) (hN : X.N.Nodup) (ok : BlkOk X.N X.env.scope scope own)
    (hg : ∀ (s : Shared) (H : Hp) (C : Addr) (cl : List (Str × Addr)) (fp : List Addr), QG (X.blk s H scope (compEnvC scope cl C X.env) fp) tg js g) (ht : ∀ (s : Shared) (H : Hp) (C : Addr) (cl : List (Str × Addr)) (fp : List Addr), QTs (X.blk s H scope (compEnvC scope cl C X.env) fp) W0 ifs t)
    (he : ∀ (s : Shared) (H : Hp) (C : Addr) (cl : List (Str × Addr)) (fp : List Addr), QE (X.blk s H scope (compEnvC scope cl C X.env) fp) W0 elt m) (hs : ∀ x, foldedSetIterable iter X.env x = pure x := by intro _; rfl) :
    QE X W (.ListComp elt [⟨tg, iter, ifs, 0⟩] scope pos) (finE f (lcM (dS2 Sd j c1 f1 c2 f2) (own.map (·.2)) g t m)) := by
  obtain ⟨wi, It, pi, hw, hso⟩ := dw.ex
  refine ⟨fun pins s σ H Q I ⟨hd, as, ρ, G, a, q⟩ => ?_⟩
  unfold finE lcM dS2 andThen at q
  cases ed : dpath j c1 f1 c2 f2 ρ with
  | none => rw [ed] at q; exact q.elim
  | some l =>
    rw [ed] at q
    simp only at q
    cases er : lcL g t m (fixS (Sd l)) (wipeE ρ (own.map (·.2))) (fixS (Sd l)).n 0 [] G with
    | none => rw [er] at q; exact q.elim
    | some pr =>
      obtain ⟨ys, Gz⟩ := pr
      rw [er] at q
      simp only at q
      obtain ⟨d, kvs, pth, h1, h2, h3⟩ := path_of a ed
      rcases h1 with h1 | ⟨od, h1⟩
      · refine (pe_lock (pe_lc (g := lowG X.K js g) (tt := lowB X.K W0 t) (te := lowE X.K W0 m) hc hN pi ok hg ht he hs)).run pins s σ H Q I ⟨d, .dK kvs, Fz.of h1, trivial, fun od => hw σ _ d od kvs _ (pth.lock (Fz.of h1)) upd_same fun L hL => ?_⟩
        obtain ⟨a2, f2'⟩ := a.lock (od := od) h1
        have so := hso X.K hd as G _ d od kvs l f2' h2 (h3.sim (sim_lock h1))
        have b0 := Bld.start (a2.wipe (own.map (·.2))) hL
        refine lc_loop hj (so.later b0.ltr) b0 er fun as2 H2 _ b => ?_
        rcases ho ys Gz with ⟨y, G', eo⟩ | eo
        · rw [eo] at q
          exact hf.fin b (by rw [eo]; exact Res.lock (od := od) h1 q)
        · rw [eo] at q; exact q.elim
      · refine (pe_lc (g := lowG X.K js g) (tt := lowB X.K W0 t) (te := lowE X.K W0 m) hc hN pi ok hg ht he hs).run pins s σ H Q I (hw σ H d od kvs _ pth (Fz.of h1) fun L hL => ?_)
        have so := hso X.K hd as G _ d od kvs l h1 h2 h3
        have b0 := Bld.start (a.wipe (own.map (·.2))) hL
        exact lc_loop hj (so.later b0.ltr) b0 er fun as2 H2 _ b => hf.fin b q
end
end DL
end L2

/-! DL47: zip of a list and a tuple; the zip goes on while its tuple is held -/
namespace L2
namespace DL
open PySem PySem.Spec PyProof.Rows
abbrev zm1 (h : Heap) (a : Addr) : Heap := h.push { cls := .type "list_iterator", data := .fields #[.ref a, .int 0 0] }
abbrev zm2 (h : Heap) (a b : Addr) : Heap := (zm1 h a).push { cls := .type "tuple_iterator", data := .fields #[.ref b, .int 0 0] }
abbrev zm3 (h : Heap) (a b : Addr) : Heap := (zm2 h a b).push { cls := .type "tuple", data := .seq #[.ref h.objs.size, .ref (zm1 h a).objs.size] }
abbrev zm4 (h : Heap) (a b : Addr) : Heap := (zm3 h a b).push { cls := .type "tuple", data := .seq #[.none, .none] }
abbrev zm5 (h : Heap) (a b : Addr) : Heap := (zm4 h a b).push { cls := .type "zip", data := .fields #[.none, .bool false, .bool false, .ref (zm2 h a b).objs.size, .ref (zm3 h a b).objs.size] }
theorem zm_new (a b : Addr) (xs ys : Array Value) :
    Meets (Builtin.«zip.__new__» ⟨[.type "zip", .ref a, .ref b], []⟩) (fun _ R s => s.heap.IsList a xs ∧ s.heap.IsTuple b ys ∧ R (.ok (.ret (.ref (zm4 s.heap a b).objs.size))) { s with heap := zm5 s.heap a b }) :=
  .of_wp fun prog w A R s h => by
    obtain ⟨hp, g, d, tk, os⟩ := s
    obtain ⟨ha, hb, h⟩ := h
    have hsub := sub_zip
    have hA : Heap.IsList (Shared.heap ⟨hp, g, d, tk, os⟩) a xs := ha
    have hB : Heap.IsTuple (Shared.heap ⟨hp.push { cls := .type "list_iterator", data := .fields #[.ref a, .int 0 0] }, g, d, tk, os⟩) b ys := Heap.IsTuple.push hb _
    wp_walk using wpAny_pyIter_list hA, wpAny_pyIter_tuple hB
    exact ⟨_, rfl, h⟩
section
variable {prog : Program} {w : World} {A : Around} {E : Value → Shared → Prop} {s : Shared}
theorem zm_call {a b : Addr} {xs ys : Array Value} {Q : Value → Shared → Prop} (ha : s.heap.IsList a xs) (hb : s.heap.IsTuple b ys)
    (h : ∀ h' n, n = s.heap.objs.size → IsZip h' (n + 4) (n + 2) (n + 3) .none → IsTupOf2 h' (n + 2) (.ref n) (.ref (n + 1)) → IsTupOf2 h' (n + 3) .none .none → h'.IsListIter n a 0 → h'.IsTupleIter (n + 1) b 0 → h'.objs.size = n + 5 →
      (∀ c o, s.heap.get? c = some o → h'.get? c = some o) → Q (.ref (n + 4)) { s with heap := h' }) : wpAny (model prog w) A (call (.type "zip") [.ref a, .ref b]) Q E s := by
  refine callType_new F.called_zip (by decide) (F.typeCall_zip_2 _ _) (F.newCall_zip_2 _ _) (fun obj => F.args_object_init_3 obj _ _) F.entry_zip_new (zm_new a b xs ys) ⟨ha, hb, ?_⟩
  have e1 : (zm1 s.heap a).objs.size = s.heap.objs.size + 1 := Heap.size_push ..
  have e2 : (zm2 s.heap a b).objs.size = s.heap.objs.size + 2 := by rw [Heap.size_push, e1]
  have e3 : (zm3 s.heap a b).objs.size = s.heap.objs.size + 3 := by rw [Heap.size_push, e2]
  have e4 : (zm4 s.heap a b).objs.size = s.heap.objs.size + 4 := by rw [Heap.size_push, e3]
  have e5 : (zm5 s.heap a b).objs.size = s.heap.objs.size + 5 := by rw [Heap.size_push, e4]
  have k5 : (zm5 s.heap a b).get? (zm4 s.heap a b).objs.size = some _ := Heap.get?_push_size _ rfl
  have k4 : (zm5 s.heap a b).get? (zm3 s.heap a b).objs.size = some _ := Heap.get?_push_of_some _ (Heap.get?_push_size _ rfl)
  have k3 : (zm5 s.heap a b).get? (zm2 s.heap a b).objs.size = some _ := Heap.get?_push_of_some _ (Heap.get?_push_of_some _ (Heap.get?_push_size _ rfl))
  have k2 : (zm5 s.heap a b).get? (zm1 s.heap a).objs.size = some _ := Heap.get?_push_of_some _ (Heap.get?_push_of_some _ (Heap.get?_push_of_some _ (Heap.get?_push_size _ rfl)))
  have k1 : (zm5 s.heap a b).get? s.heap.objs.size = some _ := Heap.get?_push_of_some _ (Heap.get?_push_of_some _ (Heap.get?_push_of_some _ (Heap.get?_push_of_some _ (Heap.get?_push_size _ rfl))))
  show _ ∧ _
  rw [e2, e3, e4] at k5
  rw [e1, e2] at k3
  rw [e3] at k4
  rw [e1] at k2
  rw [e4]
  exact ⟨⟨_, k5, rfl⟩, h _ _ rfl k5 k3 k4 ⟨_, k1, rfl, rfl⟩ ⟨_, k2, rfl, rfl⟩ e5 fun c o x => Heap.get?_push_of_some _ (Heap.get?_push_of_some _ (Heap.get?_push_of_some _ (Heap.get?_push_of_some _ (Heap.get?_push_of_some _ x))))⟩
end
section
variable {prog : Program} {w : World} {A : Around} {E : Value → Shared → Prop} {s : Shared} {z TI TO T i1 i2 : Addr} {fp1 fp2 : List Addr} {n1 n2 i : Nat} {P1 P2 : Nat → Value → Prop} {St1 St2 : Nat → Heap → Prop} {f : Bool} {oT : Obj}
theorem zh_item {Q : Value → Shared → Prop} (S : ZipSep2 z TI TO i1 i2 fp1 fp2) (D1 : Draws prog w A i1 fp1 n1 P1 St1) (D2 : Draws prog w A i2 fp2 n2 P2 St2)
    (hz : IsZipHeld s.heap z TI TO T f) (hT : s.heap.get? T = some oT) (hI : IsTupOf2 s.heap TI (.ref i1) (.ref i2)) (st1 : St1 i s.heap) (st2 : St2 i s.heap) (l1 : i < n1) (l2 : i < n2)
    (hQ : ∀ x1 x2 h' tk, P1 i x1 → P2 i x2 → IsZipHeld h' z TI TO T true → St1 (i + 1) h' → St2 (i + 1) h' → IsTupOf2 h' s.heap.objs.size x1 x2 → h'.objs.size = s.heap.objs.size + 1 →
      (∀ c o, c ≠ z → c ≠ i1 → c ≠ i2 → s.heap.get? c = some o → h'.get? c = some o) → Q (.ref s.heap.objs.size) { s with heap := h', toks := tk }) :
    wpAny (model prog w) A (Builtin.«zip.__next__» ⟨[.ref z], []⟩) (fun fin s' => ∃ v, fin = .done (.ret v) ∧ Q v s') E s := by
  obtain ⟨hp, g, d, tk0, os⟩ := s
  show wpAny _ _ (field (.ref z) 2 >>= _) _ _ _
  refine wpAny_bind (wpAny_field hz rfl (x := .bool false) rfl ?_)
  show wpAny _ _ (field (.ref z) 3 >>= _) _ _ _
  refine wpAny_bind (wpAny_field hz rfl (x := .ref TI) rfl ?_)
  refine wpAny_bind (wpAny_seqItems hI rfl ?_)
  show wpAny _ _ (Builtin.SmallTypes.ownedTupleIsFree (.ref z) >>= _) _ _ _
  refine wpAny_bind (wpAny_tupleHeld_zip hz hT fun g0 hz0 hs0 => ?_)
  replace hs0 : Heap.SameBut z hp g0 := hs0
  simp only [Bool.false_eq_true, if_false]
  refine wpAny_bind ?_
  rw [← Array.forIn_toList]
  simp only [List.forIn_cons, List.forIn_nil]
  refine wpAny_bind (wpAny_bind (wpAny_holding ?_))
  show wpAny _ _ (Builtin.SmallTypes.nextOf (.ref i1) >>= _) _ _ ⟨g0, g, d, tk0, os⟩
  refine wpAny_bind (D1.item i _ _ _ l1 (D1.over st1 hs0 S.zf1) fun x1 p1 tk1 hx1 sn1 hp1 => wpAny_pure ?_)
  replace hp1 : Heap.SameBut i1 g0 p1 := hp1
  refine wpAny_pure ?_
  refine wpAny_bind (wpAny_bind (wpAny_holding ?_))
  show wpAny _ _ (Builtin.SmallTypes.nextOf (.ref i2) >>= _) _ _ ⟨p1, g, d, tk1, os⟩
  refine wpAny_bind (D2.item i _ _ _ l2 (D2.over (D2.over st2 hs0 S.zf2) hp1 S.sep1_2) fun x2 p2 tk2 hx2 sn2 hp2 => wpAny_pure ?_)
  replace hp2 : Heap.SameBut i2 p1 p2 := hp2
  refine wpAny_pure (wpAny_pure ?_)
  show wpAny _ _ (newTuple [x1, x2] >>= _) _ _ ⟨p2, g, d, tk2, os⟩
  refine wpAny_bind (wpAny_newTuple ?_)
  have sz : p2.objs.size = hp.objs.size := by rw [hp2.1, hp1.1, hs0.1]
  have z2 : IsZipHeld p2 z TI TO T true := hp2.extBut _ _ S.zi2 (hp1.extBut _ _ S.zi1 hz0)
  have kp : ∀ c o, c ≠ z → c ≠ i1 → c ≠ i2 → hp.get? c = some o → p2.get? c = some o := fun c o c1 c2 c3 e => hp2.extBut _ _ c3 (hp1.extBut _ _ c2 (hs0.extBut _ _ c1 e))
  have up : ∀ c o, p2.get? c = some o → (p2.push { cls := .type "tuple", data := .seq #[x1, x2] }).get? c = some o := fun c o e => Heap.get?_push_of_some _ e
  refine wpAny_pure ⟨_, rfl, ?_⟩
  show Q (.ref p2.objs.size) _
  have t4 : IsTupOf2 (p2.push { cls := .type "tuple", data := .seq #[x1, x2] }) p2.objs.size x1 x2 := Heap.get?_push_size _ rfl
  have s4 : (p2.push { cls := .type "tuple", data := .seq #[x1, x2] }).objs.size = p2.objs.size + 1 := Heap.size_push ..
  rw [sz] at t4 s4 ⊢
  exact hQ x1 x2 _ tk2 hx1 hx2 (up _ _ z2) (D1.frame _ _ _ (D1.over sn1 hp2 S.sep2_1) fun b _ o e => up b o e) (D2.frame _ _ _ sn2 fun b _ o e => up b o e) t4 s4 fun c o c1 c2 c3 e => up c o (kp c o c1 c2 c3 e)
theorem zh_end {Q : Fin → Shared → Prop} (S : ZipSep2 z TI TO i1 i2 fp1 fp2) (D1 : Draws prog w A i1 fp1 n1 P1 St1) (D2 : Draws prog w A i2 fp2 n2 P2 St2)
    (hz : IsZipHeld s.heap z TI TO T f) (hT : s.heap.get? T = some oT) (hI : IsTupOf2 s.heap TI (.ref i1) (.ref i2)) (st1 : St1 i s.heap) (st2 : St2 i s.heap) (l1 : i ≤ n1) (l2 : i ≤ n2) (hend : i = n1 ∨ i = n2)
    (hE : ∀ h' tk e, (∀ c o, c ≠ z → c ≠ i1 → c ≠ i2 → s.heap.get? c = some o → h'.get? c = some o) → (∃ o, h'.get? e = some o ∧ o.cls = .type "StopIteration") → E (.ref e) { s with heap := h', toks := tk }) :
    wpAny (model prog w) A (Builtin.«zip.__next__» ⟨[.ref z], []⟩) Q E s := by
  obtain ⟨hp, g, d, tk0, os⟩ := s
  show wpAny _ _ (field (.ref z) 2 >>= _) _ _ _
  refine wpAny_bind (wpAny_field hz rfl (x := .bool false) rfl ?_)
  show wpAny _ _ (field (.ref z) 3 >>= _) _ _ _
  refine wpAny_bind (wpAny_field hz rfl (x := .ref TI) rfl ?_)
  refine wpAny_bind (wpAny_seqItems hI rfl ?_)
  show wpAny _ _ (Builtin.SmallTypes.ownedTupleIsFree (.ref z) >>= _) _ _ _
  refine wpAny_bind (wpAny_tupleHeld_zip hz hT fun g0 hz0 hs0 => ?_)
  replace hs0 : Heap.SameBut z hp g0 := hs0
  simp only [Bool.false_eq_true, if_false]
  refine wpAny_bind ?_
  rw [← Array.forIn_toList]
  simp only [List.forIn_cons, List.forIn_nil]
  refine wpAny_bind (wpAny_bind (wpAny_holding ?_))
  show wpAny _ _ (Builtin.SmallTypes.nextOf (.ref i1) >>= _) _ _ ⟨g0, g, d, tk0, os⟩
  by_cases hlt : i < n1
  · refine wpAny_bind (D1.item i _ _ _ hlt (D1.over st1 hs0 S.zf1) fun x1 p1 tk1 hx1 sn1 hp1 => wpAny_pure ?_)
    replace hp1 : Heap.SameBut i1 g0 p1 := hp1
    refine wpAny_pure ?_
    refine wpAny_bind (wpAny_bind (wpAny_holding ?_))
    have hi2 : i = n2 := by omega
    show wpAny _ _ (Builtin.SmallTypes.nextOf (.ref i2) >>= _) _ _ ⟨p1, g, d, tk1, os⟩
    refine wpAny_bind (D2.done ⟨p1, g, d, tk1, os⟩ _ _ (by rw [← hi2]; exact D2.over (D2.over st2 hs0 S.zf2) hp1 S.sep1_2) fun q e hq he => ?_)
    replace hq : Heap.ExtBut i2 p1 q := hq
    exact hE q tk1 e (fun c o c1 c2 c3 x => hq _ _ c3 (hp1.extBut _ _ c2 (hs0.extBut _ _ c1 x))) he
  · have hi1 : i = n1 := by omega
    refine wpAny_bind (D1.done ⟨g0, g, d, tk0, os⟩ _ _ (by rw [← hi1]; exact D1.over st1 hs0 S.zf1) fun q e hq he => ?_)
    replace hq : Heap.ExtBut i1 g0 q := hq
    exact hE q tk0 e (fun c o c1 c2 c3 x => hq _ _ c2 (hs0.extBut _ _ c1 x)) he
/-- the zip at its turn i; its tuple is free, or held by what is alive -/
def ZSt (z TI TO i1 i2 S : Addr) (St1 St2 : Nat → Heap → Prop) (i : Nat) (h : Heap) : Prop :=
  IsTupOf2 h TI (.ref i1) (.ref i2) ∧ St1 i h ∧ St2 i h ∧ ((IsZip h z TI TO .none ∧ ∃ a b, IsTupOf2 h TO a b) ∨ ∃ T f oT, IsZipHeld h z TI TO T f ∧ h.get? T = some oT ∧ T ≠ z ∧ T ≠ i1 ∧ T ≠ i2 ∧ T ≠ S)
theorem zn_item {S : Addr} {Q : Option Value → Shared → Prop} (C : ZipSep2 z TI TO i1 i2 fp1 fp2) (D1 : Draws prog w A.in1 i1 fp1 n1 P1 St1) (D2 : Draws prog w A.in1 i2 fp2 n2 P2 St2) (st : ZSt z TI TO i1 i2 S St1 St2 i s.heap) (hS : S < s.heap.objs.size) (l1 : i < n1) (l2 : i < n2)
    (hQ : ∀ x1 x2 h' tk, P1 i x1 → P2 i x2 → ZSt z TI TO i1 i2 S St1 St2 (i + 1) h' → IsTupOf2 h' s.heap.objs.size x1 x2 → h'.objs.size = s.heap.objs.size + 1 →
      (∀ c o, c ∉ [z, TO, i1, i2] → s.heap.get? c = some o → h'.get? c = some o) → Q (some (.ref s.heap.objs.size)) { s with heap := h', toks := tk }) :
    wpAny (model prog w) A (pyNext (.ref z)) Q E s := by
  obtain ⟨hI, st1, st2, hz⟩ := st
  have lt : ∀ {c o}, s.heap.get? c = some o → s.heap.objs.size ≠ c := fun e => Nat.ne_of_gt (Heap.lt_size e)
  obtain ⟨o1, q1⟩ := D1.live _ _ st1
  obtain ⟨o2, q2⟩ := D2.live _ _ st2
  rcases hz with ⟨hz, a, b, hTO⟩ | ⟨T, f, oT, hz, hT, r1, r2, r3, r4⟩
  · refine wpAny_pyNext_zipD2_item C D1 D2 hz hI hTO st1 st2 l1 l2 fun x1 x2 h' tk p1 p2 z' t' s1 s2 tt sz hk => ?_
    exact hQ x1 x2 h' tk p1 p2 ⟨hk _ _ C.TIz C.TITO C.TIi1 C.TIi2 hI, s1, s2, .inr ⟨_, false, _, z', tt, lt hz, lt q1, lt q2, Nat.ne_of_gt hS⟩⟩ tt sz fun c o hc e => hk c o (fun x => hc (by simp [x])) (fun x => hc (by simp [x])) (fun x => hc (by simp [x])) (fun x => hc (by simp [x])) e
  · have hTy : s.TypeIs (.ref z) "zip" := ⟨_, hz, rfl⟩
    unfold pyNext
    exact wpAny_bind (wpAny_attempt (wpAny_callSpecial?_slot (name := Str.ofString "__next__") hTy F.slot_zip_next (wpAny_call_entry F.slot_zip_next hTy F.entry_zip_next
      (zh_item C D1 D2 hz hT hI st1 st2 l1 l2 fun x1 x2 h' tk p1 p2 z' s1 s2 tt sz hk => wpAny_pure (hQ x1 x2 h' tk p1 p2 ⟨hk _ _ C.TIz C.TIi1 C.TIi2 hI, s1, s2, .inr ⟨T, true, oT, z', hk _ _ r1 r2 r3 hT, r1, r2, r3, r4⟩⟩ tt sz
        fun c o hc e => hk c o (fun x => hc (by simp [x])) (fun x => hc (by simp [x])) (fun x => hc (by simp [x])) e)) (F.args_zip_next_1 _))))
theorem zn_end {S : Addr} {Q : Option Value → Shared → Prop} (C : ZipSep2 z TI TO i1 i2 fp1 fp2) (D1 : Draws prog w A.in1 i1 fp1 n1 P1 St1) (D2 : Draws prog w A.in1 i2 fp2 n2 P2 St2) (st : ZSt z TI TO i1 i2 S St1 St2 i s.heap) (l1 : i ≤ n1) (l2 : i ≤ n2) (hend : i = n1 ∨ i = n2)
    (hQ : ∀ h' tk, (∀ c o, c ∉ [z, TO, i1, i2] → s.heap.get? c = some o → h'.get? c = some o) → Q none { s with heap := h', toks := tk }) : wpAny (model prog w) A (pyNext (.ref z)) Q E s := by
  obtain ⟨hI, st1, st2, hz⟩ := st
  rcases hz with ⟨hz, a, b, hTO⟩ | ⟨T, f, oT, hz, hT, r1, r2, r3, r4⟩
  · exact wpAny_pyNext_zipD2_end C D1 D2 hz hI hTO st1 st2 l1 l2 hend fun h' tk hk => hQ h' tk fun c o hc e => hk c o (fun x => hc (by simp [x])) (fun x => hc (by simp [x])) (fun x => hc (by simp [x])) (fun x => hc (by simp [x])) e
  · have hTy : s.TypeIs (.ref z) "zip" := ⟨_, hz, rfl⟩
    unfold pyNext
    refine wpAny_bind (wpAny_attempt (wpAny_callSpecial?_slot (name := Str.ofString "__next__") hTy F.slot_zip_next (wpAny_call_entry F.slot_zip_next hTy F.entry_zip_next
      (zh_end C D1 D2 hz hT hI st1 st2 l1 l2 hend fun h' tk e hk he => ?_) (F.args_zip_next_1 _))))
    obtain ⟨o, ho, hc⟩ := he
    refine wpAny_bind (wpAny_isInstance (T := "StopIteration") (b := true) ⟨o, ho, hc⟩ isSubtype_stop ?_)
    exact wpAny_pure (hQ _ _ fun c o hc e => hk c o (fun x => hc (by simp [x])) (fun x => hc (by simp [x])) (fun x => hc (by simp [x])) e)
end
end DL
end L2

/-! DL48: [*zip(a, b), ..], a list and a tuple -/
namespace L2
namespace DL
open PySem PySem.Spec PyProof.Rows
inductive Laid : Hp → List (V × V) → List Addr → Hp → Prop
  | nil {H : Hp} : Laid H [] [] H
  | cons {H H' : Hp} {p : Addr} {x y : V} {r : List (V × V)} {ps : List Addr} (h : H p = none) (t : Laid (upd H p (.tup [x, y])) r ps H') : Laid H ((x, y) :: r) (p :: ps) H'
theorem zip_drop {α β : Type} {xs : List α} {ys : List β} {i : Nat} {x : α} {y : β} {r : List (α × β)} (h : (xs.zip ys).drop i = (x, y) :: r) : xs[i]? = some x ∧ ys[i]? = some y ∧ (xs.zip ys).drop (i + 1) = r := by
  have h1 : (xs.zip ys)[i]? = some (x, y) := by
    have := congrArg (fun l => l[0]?) h
    simpa [List.getElem?_drop] using this
  have h2 := List.getElem?_zip_eq_some.mp h1
  refine ⟨h2.1, h2.2, ?_⟩
  rw [← List.drop_drop, h]
  rfl
theorem mem5 {q z a b c S : Addr} (h : q ∈ [z, a, b, c]) : q ∈ [z, a, b, c, S] := by
  have h' : q = z ∨ q = a ∨ q = b ∨ q = c := by simpa using h
  rcases h' with e | e | e | e <;> simp [e]
abbrev lS (a i1 : Addr) (its : List Value) : Nat → Heap → Prop := fun i h => h.IsListIter i1 a i ∧ h.IsList a its.toArray
abbrev tS (b i2 : Addr) (its : List Value) : Nat → Heap → Prop := fun i h => h.IsTupleIter i2 b i ∧ h.IsTuple b its.toArray
section
variable {z TI TO i1 i2 S a b : Addr} {u1 u2 : List Value} {i : Nat} {h h' : Heap}
theorem ZSt.over (st : ZSt z TI TO i1 i2 S (lS a i1 u1) (tS b i2 u2) i h) (hS : ∀ c ∈ [z, TI, TO, i1, i2, a, b], c ≠ S) (k : ∀ c o, c ≠ S → h.get? c = some o → h'.get? c = some o) : ZSt z TI TO i1 i2 S (lS a i1 u1) (tS b i2 u2) i h' := by
  obtain ⟨hI, ⟨p1, p2⟩, ⟨p3, p4⟩, hz⟩ := st
  have n := fun c hc o e => k c o (hS c hc) e
  refine ⟨n TI (by simp) _ hI, ⟨p1.at fun o e => n i1 (by simp) o e, p2.at fun o e => n a (by simp) o e⟩, ⟨p3.at fun o e => n i2 (by simp) o e, p4.at fun o e => n b (by simp) o e⟩, ?_⟩
  rcases hz with ⟨hz, x, y, hTO⟩ | ⟨T, f, oT, hz, hT, r1, r2, r3, r4⟩
  · exact .inl ⟨n z (by simp) _ hz, x, y, n TO (by simp) _ hTO⟩
  · exact .inr ⟨T, f, oT, n z (by simp) _ hz, k _ _ r4 hT, r1, r2, r3, r4⟩
end
section
variable {X : Cx} {pins : List (Addr × Obj)} {σ : L2.St} {z TI TO i1 i2 S a b : Addr} {u1 u2 : List Value} {xs ys : List V} {A : Around} {R : Result → Shared → Prop}
theorem zx_loop (hh : A.handled = none) (C : ZipSep2 z TI TO i1 i2 [i1, a] [i2, b]) (na : a ≠ i1) (nb : b ≠ i2) (v1 : Vals xs u1) (v2 : Vals ys u2) (hl : xs.length ≤ sizeLine) (hne : ∀ c ∈ [z, TI, TO, i1, i2, a, b], c ≠ S) (res : Value) :
    ∀ (rest : List (V × V)) (i : Nat) (s : Shared) (H : Hp) (ps : List Addr) (c : Nat), (xs.zip ys).drop i = rest → i ≤ xs.length → i ≤ ys.length → ps.length = i → ZSt z TI TO i1 i2 S (lS a i1 u1) (tS b i2 u2) i s.heap → Inv X pins σ H s → (∀ c ∈ [z, TO, i1, i2, S], FpOk X pins H c) → (∀ c ∈ [z, TO, i1, i2, S], c < s.heap.objs.size) →
      s.heap.get? S = some { cls := .type "list", dict := none, data := .seq (ps.map Value.ref).toArray c, slots := #[] } →
      (∀ s' H' qs c', Inv X pins σ H' s' → Laid H rest qs H' → s'.heap.get? S = some { cls := .type "list", dict := none, data := .seq ((ps ++ qs).map Value.ref).toArray c', slots := #[] } → R (.ok (.ret res)) s') →
      codeAny (model X.prog X.w) A (.builtin "list.extend.loop" ⟨[.ref S, .ref z, res], []⟩) R s := by
  have D1 := Draws.list (prog := X.prog) (w := X.w) (A := A.in1.in1) hh i1 a na u1.toArray
  have D2 := Draws.tuple (prog := X.prog) (w := X.w) (A := A.in1.in1) hh i2 b nb u2.toArray
  have e1 := v1.length
  have e2 := v2.length
  intro rest
  induction rest with
  | nil =>
    intro i s H ps c hd hi1 hi2 hp st I hf hb hS hR
    refine codeAny_builtin F.entry_extend_loop ?_
    rw [Around.under_plainId F.plain_extend_loop _]
    show wpAny _ A.in1 (pyNext (.ref z) >>= _) _ _ s
    have hz : (xs.zip ys).length ≤ i := List.drop_eq_nil_iff.mp hd
    rw [List.length_zip] at hz
    refine wpAny_bind (zn_end C D1 D2 st (by rw [List.size_toArray]; omega) (by rw [List.size_toArray]; omega) (by rw [List.size_toArray, List.size_toArray]; omega) fun h' tk hk => ?_)
    have I1 := I.turnedL (t' := tk) (ch := [z, TO, i1, i2]) hk fun q hq => hf q (mem5 hq)
    have hSn : S ∉ [z, TO, i1, i2] := fun q => by
      simp at q
      rcases q with q | q | q | q
      · exact hne z (by simp) q.symm
      · exact hne TO (by simp) q.symm
      · exact hne i1 (by simp) q.symm
      · exact hne i2 (by simp) q.symm
    exact wpAny_pure (hR _ H [] c I1 .nil (by rw [List.append_nil]; exact hk S _ hSn hS))
  | cons pr rest ih =>
    obtain ⟨x, y⟩ := pr
    intro i s H ps c hd hi1 hi2 hp st I hf hb hS hR
    obtain ⟨hx, hy, hd'⟩ := zip_drop hd
    have lx : i < xs.length := (List.getElem?_eq_some_iff.mp hx).1
    have ly : i < ys.length := (List.getElem?_eq_some_iff.mp hy).1
    obtain ⟨w1, hw1, rw1⟩ := v1.get hx
    obtain ⟨w2, hw2, rw2⟩ := v2.get hy
    refine codeAny_builtin F.entry_extend_loop ?_
    rw [Around.under_plainId F.plain_extend_loop _]
    show wpAny _ A.in1 (pyNext (.ref z) >>= _) _ _ s
    refine wpAny_bind (zn_item C D1 D2 st (Heap.lt_size hS) (by rw [List.size_toArray]; omega) (by rw [List.size_toArray]; omega) fun x1 x2 h' tk p1 p2 st' tt sz hk => ?_)
    have q1 : x1 = w1 := by
      have : u1.toArray[i]? = some x1 := p1
      rw [List.getElem?_toArray, hw1] at this
      exact (Option.some.inj this).symm
    have q2 : x2 = w2 := by
      have : u2.toArray[i]? = some x2 := p2
      rw [List.getElem?_toArray, hw2] at this
      exact (Option.some.inj this).symm
    subst q1 q2
    have hSn : S ∉ [z, TO, i1, i2] := fun q => by
      simp at q
      rcases q with q | q | q | q
      · exact hne z (by simp) q.symm
      · exact hne TO (by simp) q.symm
      · exact hne i1 (by simp) q.symm
      · exact hne i2 (by simp) q.symm
    have hS' := hk S _ hSn hS
    have hpS : s.heap.objs.size ≠ S := Nat.ne_of_gt (Heap.lt_size hS)
    have fresh : H s.heap.objs.size = none := I.hok.fresh (Nat.le_refl _)
    have new : ObjOk X.prog X.w (upd H s.heap.objs.size (.tup [x, y])) h' s.heap.objs.size (.tup [x, y]) := ⟨by show 2 ≤ sizeLine; decide, [x1, x2], .cons rw1 (.cons rw2 .nil), ⟨_, tt, rfl, _, rfl⟩⟩
    have I1 : Inv X pins σ (upd H s.heap.objs.size (.tup [x, y])) { s with heap := h', toks := tk } := I.turnedNew (t' := tk) (ch := [z, TO, i1, i2]) hk (fun q hq => hf q (mem5 hq)) (Nat.le_refl _) new
    have hf1 : ∀ c ∈ [z, TO, i1, i2, S], FpOk X pins (upd H s.heap.objs.size (.tup [x, y])) c := fun q hq => by
      have hlt : q ≠ s.heap.objs.size := Nat.ne_of_lt (hb q hq)
      exact ⟨by rw [upd_ne hlt]; exact (hf q hq).1, (hf q hq).2⟩
    show wpAny _ A.in1 (updateSeq S (·.push (.ref s.heap.objs.size)) >>= _) _ _ _
    refine wpAny_bind ?_
    have ln : (ps.map Value.ref).toArray.size = i := by rw [List.size_toArray, List.length_map]; exact hp
    have ko : ∀ c o, c ≠ S → h'.get? c = some o → (h'.update S (Obj.mapSeq (·.push (.ref s.heap.objs.size)))).get? c = some o := fun c o hc e => (Heap.get?_update_other _ _ (Ne.symm hc)).trans e
    have I2 := I1.turnedL (t' := tk) (ch := [S]) (h' := h'.update S (Obj.mapSeq (·.push (.ref s.heap.objs.size)))) (fun c o hc e => ko c o (by simpa using hc) e) fun q hq => hf1 q (by simp at hq; simp [hq])
    have hS2 := Heap.get?_update_self (Obj.mapSeq (·.push (.ref s.heap.objs.size))) hS' rfl
    have hS3 : ∃ c3, (h'.update S (Obj.mapSeq (·.push (.ref s.heap.objs.size)))).get? S = some { cls := .type "list", dict := none, data := .seq ((ps ++ [s.heap.objs.size]).map Value.ref).toArray c3, slots := #[] } := ⟨_, by rw [hS2]; simp [Obj.mapSeq]; rfl⟩
    obtain ⟨c3, hS3⟩ := hS3
    refine wpAny_updateSeq hS' rfl (wpAny_pure ⟨plainId_quiet F.plain_extend_loop _, ih (i + 1) _ _ (ps ++ [s.heap.objs.size]) c3 hd' lx ly (by rw [List.length_append, hp]; rfl) (st'.over hne ko) I2 hf1 (fun q hq => by show q < (h'.update S (Obj.mapSeq (·.push (.ref s.heap.objs.size)))).objs.size; rw [(Heap.SameBut.update ..).1, sz]; exact Nat.lt_succ_of_lt (hb q hq)) hS3 fun s'' H'' qs c' I'' L'' hS'' => hR s'' H'' (s.heap.objs.size :: qs) c' I'' (.cons fresh L'') (by rw [List.append_cons]; exact hS'')⟩) (by rw [ln]; omega) (by rw [Array.size_push, ln]; omega)
end
theorem zip_nolen : typeLookup (.type "zip") "__len__" = pure none := by rw [typeLookup_type, builtinLookup_eq_fast]; kernel_rfl
theorem zip_nohint : typeLookup (.type "zip") "__length_hint__" = pure none := by rw [typeLookup_type, builtinLookup_eq_fast]; kernel_rfl
section
variable {X : Cx} {pins : List (Addr × Obj)} {σ : L2.St} {H : Hp} {s : Shared} {z TI TO i1 i2 a b : Addr} {u1 u2 : List Value} {xs ys : List V} {A : Around} {E : Value → Shared → Prop}
theorem zx_collect {Q : List Value → Shared → Prop} (hh : A.handled = none) (C : ZipSep2 z TI TO i1 i2 [i1, a] [i2, b]) (na : a ≠ i1) (nb : b ≠ i2) (v1 : Vals xs u1) (v2 : Vals ys u2) (hl : xs.length ≤ sizeLine)
    (hz : IsZip s.heap z TI TO .none) (hI : IsTupOf2 s.heap TI (.ref i1) (.ref i2)) (hO : IsTupOf2 s.heap TO .none .none) (h1 : lS a i1 u1 0 s.heap) (h2 : tS b i2 u2 0 s.heap) (I : Inv X pins σ H s) (hf : ∀ c ∈ [z, TO, i1, i2], FpOk X pins H c)
    (hQ : ∀ s' H' qs, Inv X pins σ H' s' → Laid H (xs.zip ys) qs H' → Q (qs.map Value.ref) s') : wpAny (model X.prog X.w) A (collect (.ref z)) Q E s := by
  have lt : ∀ {c o}, s.heap.get? c = some o → c < s.heap.objs.size := fun e => Heap.lt_size e
  obtain ⟨⟨o1, k1, _⟩, ⟨oa, ka, _⟩⟩ := id h1
  obtain ⟨⟨o2, k2, _⟩, ⟨ob, kb, _⟩⟩ := id h2
  have hne : ∀ c ∈ [z, TI, TO, i1, i2, a, b], c ≠ s.heap.objs.size := fun c hc => Nat.ne_of_lt (by
    have hc' : c = z ∨ c = TI ∨ c = TO ∨ c = i1 ∨ c = i2 ∨ c = a ∨ c = b := by simpa using hc
    rcases hc' with e | e | e | e | e | e | e <;> rw [e]
    · exact lt hz
    · exact lt hI
    · exact lt hO
    · exact lt k1
    · exact lt k2
    · exact lt ka
    · exact lt kb)
  have hSz : s.heap.objs.size ≠ z := (hne z (by simp)).symm
  unfold collect
  refine wpAny_bind (wpAny_runValue (codeAny_builtin F.entry_proto_collect ?_))
  rw [Around.under_plainId F.plain_proto_collect _]
  show wpAny _ A.in1 (newList [] >>= fun l => again (.builtin "list.__iadd__" ⟨[l, .ref z], []⟩)) _ _ s
  refine wpAny_bind (wpAny_newObj_type ?_)
  refine wpAny_pure ⟨plainId_quiet F.plain_list_iadd _, codeAny_builtin F.entry_list_iadd ?_⟩
  rw [Around.under_plainId F.plain_list_iadd _]
  have kp : ∀ c o, s.heap.get? c = some o → (s.heap.push { cls := .type "list", data := .seq ([] : List Value).toArray }).get? c = some o := fun c o e => Heap.get?_push_of_some _ e
  have hS1 : (s.heap.push { cls := .type "list", data := .seq ([] : List Value).toArray }).get? s.heap.objs.size = some { cls := .type "list", data := .seq ([] : List Value).toArray } := Heap.get?_push_size _ rfl
  have hT : ({ s with heap := s.heap.push { cls := .type "list", data := .seq ([] : List Value).toArray } } : Shared).TypeIs (.ref z) "zip" := ⟨_, kp _ _ hz, rfl⟩
  show wpAny _ A.in1 (Builtin.List.listExtendWith (.ref s.heap.objs.size) (.ref z) (.ref s.heap.objs.size)) _ _ _
  unfold Builtin.List.listExtendWith
  refine wpAny_bind (wpAny_typeOf hT ?_)
  have b1 : Builtin.List.listSameRef (.ref s.heap.objs.size) (.ref z) = false := by simp [Builtin.List.listSameRef, hSz]
  have b2 : (Value.type "zip" == Value.type "list") = false := by decide
  have b3 : (Value.type "zip" == Value.type "tuple") = false := by decide
  simp only [b1, b2, b3, Bool.or_false, Bool.false_eq_true, if_false]
  refine wpAny_bind (wpAny_pyIter_zip (kp _ _ hz) ?_)
  refine wpAny_bind (wpAny_holding ?_)
  unfold Builtin.List.listLengthHint
  refine wpAny_bind (wpAny_specialOf hT zip_nolen ?_)
  show wpAny _ A.in1 (specialOf (Value.ref z) (Str.ofString "__length_hint__") >>= _) _ _ _
  refine wpAny_bind (wpAny_specialOf hT zip_nohint ?_)
  refine wpAny_pure ?_
  show wpAny _ A.in1 (rule "list.extend.makes-room" >>= fun _ => Builtin.List.listTouch (.ref s.heap.objs.size) >>= fun _ => again (.builtin "list.extend.loop" ⟨[.ref s.heap.objs.size, .ref z, .ref s.heap.objs.size], []⟩)) _ _ _
  refine wpAny_bind (wpAny_rule ?_)
  refine wpAny_bind ?_
  show wpAny _ A.in1 (updateSeq s.heap.objs.size (·.push .none) >>= fun _ => updateSeq s.heap.objs.size (·.pop)) _ _ _
  refine wpAny_bind (wpAny_updateSeq hS1 rfl ?_)
  have hS2 := Heap.get?_update_self (Obj.mapSeq (·.push Value.none)) hS1 rfl
  refine wpAny_updateSeq hS2 rfl ?_
  have hS3 := Heap.get?_update_self (Obj.mapSeq (·.pop)) hS2 rfl
  have oth : ∀ c o, s.heap.get? c = some o → (((s.heap.push { cls := .type "list", data := .seq ([] : List Value).toArray }).update s.heap.objs.size (Obj.mapSeq (·.push Value.none))).update s.heap.objs.size (Obj.mapSeq (·.pop))).get? c = some o :=
    fun c o e => (Heap.get?_update_other _ _ (Nat.ne_of_gt (lt e))).trans ((Heap.get?_update_other _ _ (Nat.ne_of_gt (lt e))).trans (kp c o e))
  have I1 := I.kept (t' := s.toks) oth
  have szz : (((s.heap.push { cls := .type "list", data := .seq ([] : List Value).toArray }).update s.heap.objs.size (Obj.mapSeq (·.push Value.none))).update s.heap.objs.size (Obj.mapSeq (·.pop))).objs.size = s.heap.objs.size + 1 := by
    rw [(Heap.SameBut.update ..).1, (Heap.SameBut.update ..).1, Heap.size_push]
  refine wpAny_pure ⟨plainId_quiet F.plain_extend_loop _, zx_loop hh C na nb v1 v2 hl hne _ (xs.zip ys) 0 _ H [] _ rfl (Nat.zero_le _) (Nat.zero_le _) rfl ?_ I1 ?_ ?_ hS3 fun s' H' qs c' I' L' hS' => ?_⟩
  · exact ⟨oth _ _ hI, ⟨h1.1.at fun o e => oth _ o e, h1.2.at fun o e => oth _ o e⟩, ⟨h2.1.at fun o e => oth _ o e, h2.2.at fun o e => oth _ o e⟩, .inl ⟨oth _ _ hz, _, _, oth _ _ hO⟩⟩
  · intro c hc
    have hc' : c ∈ [z, TO, i1, i2] ∨ c = s.heap.objs.size := by
      have q : c = z ∨ c = TO ∨ c = i1 ∨ c = i2 ∨ c = s.heap.objs.size := by simpa using hc
      rcases q with e | e | e | e | e <;> simp [e]
    rcases hc' with q | q
    · exact hf c q
    · rw [q]
      exact I.fpOk (Nat.le_refl _) (I.hok.fresh (Nat.le_refl _))
  · intro c hc
    show c < _
    rw [szz]
    have q : c = z ∨ c = TO ∨ c = i1 ∨ c = i2 ∨ c = s.heap.objs.size := by simpa using hc
    rcases q with e | e | e | e | e <;> rw [e]
    · exact Nat.lt_succ_of_lt (lt hz)
    · exact Nat.lt_succ_of_lt (lt hO)
    · exact Nat.lt_succ_of_lt (lt k1)
    · exact Nat.lt_succ_of_lt (lt k2)
    · exact Nat.lt_succ_self _
  · show wpAny _ A (load s.heap.objs.size >>= _) _ _ s'
    refine wpAny_bind (wpAny_load hS' ?_)
    refine wpAny_pure ?_
    have := hQ s' H' qs I' L'
    simpa using this
end
section
variable {X : Cx} {e e2 : Expr} {es : List Expr} {ta t : TA} {p pos sp : Pos}
theorem sepZ (n a b : Nat) (la : a < n) (lb : b < n) : ZipSep2 (n + 4) (n + 2) (n + 3) n (n + 1) [n, a] [n + 1, b] := by
  have m : ∀ {c d e : Nat}, c ≠ d → c ≠ e → c ∉ [d, e] := fun h1 h2 h => by
    have := List.mem_cons.mp h
    rcases this with q | q
    · exact h1 q
    · exact h2 (by simpa using q)
  refine ⟨?_, ?_, ?_, ?_, ?_, ?_, ?_, ?_, ?_, ?_, ?_, ?_, ?_⟩
  · exact Nat.ne_of_lt (by omega)
  · exact Nat.ne_of_lt (by omega)
  · exact Nat.ne_of_lt (by omega)
  · exact Nat.ne_of_gt (by omega)
  · exact List.mem_cons_self ..
  · exact m (Nat.ne_of_gt (by omega)) (Nat.ne_of_gt (by omega))
  · exact m (Nat.ne_of_gt (by omega)) (Nat.ne_of_gt (by omega))
  · exact Nat.ne_of_gt (by omega)
  · exact List.mem_cons_self ..
  · exact m (Nat.ne_of_gt (by omega)) (Nat.ne_of_gt (by omega))
  · exact m (Nat.ne_of_gt (by omega)) (Nat.ne_of_gt (by omega))
  · exact m (Nat.ne_of_lt (by omega)) (Nat.ne_of_gt (by omega))
  · exact m (Nat.ne_of_gt (by omega)) (Nat.ne_of_gt (by omega))
def tStarZ (K : PySem.W.Frag) (ta t : TA) : TA := fun σ H Q => ta σ H fun vs H1 => ∃ a b xs ys, vs = [.ref a, .ref b] ∧ SqL K H1 a xs ∧ SqT K H1 b ys ∧ ∀ qs H2, Laid H1 (xs.zip ys) qs H2 → t σ H2 fun ws H3 => Q (qs.map V.ref ++ ws) H3
theorem vals_refs : ∀ qs : List Addr, Vals (qs.map V.ref) (qs.map Value.ref)
  | [] => .nil
  | _ :: qs => .cons rfl (vals_refs qs)
theorem pa_starZ (hc : X.calm = true) (hg : Gl X "zip") (hm : X.mg "zip" = none) (ha : PA X [e, e2] ta) (hr : PA X es t)
    (hs : starEach [e, e2] X.env = (false, eval e X.env) :: starEach [e2] X.env := by rfl) (hpl : (backTo pos (starEach [e2] X.env)).any (·.1) = false := by rfl)
    (hst : starEach (.Starred (.Call (.Name "zip" p) [e, e2] [] pos) sp :: es) X.env = (true, eval (.Call (.Name "zip" p) [e, e2] [] pos) X.env) :: starEach es X.env := by rfl) :
    PA X (.Starred (.Call (.Name "zip" p) [e, e2] [] pos) sp :: es) (tStarZ X.K ta t) := by
  refine ⟨fun pos' pins s σ H Q I h => ?_⟩
  refine PySem.W.items_star (Call_ (ld_blt I hg hm PyProof.Rows.boot_zip (PyProof.Rows.callWith_type1 (thn (ha.run pos pins s σ H _ I h) fun us s1 ⟨vs, H1, I1, r1, q1⟩ => ?_) hs hpl))) hst
  obtain ⟨a, b, xs, ys, ex, hqx, hqy, q⟩ := q1
  subst ex
  cases r1 with
  | cons r rr =>
    cases rr with
    | cons r' rr =>
      cases rr
      cases r
      cases r'
      obtain ⟨its, rv, p1, lz⟩ := I1.list hqx
      obtain ⟨its2, rv2, p2, _⟩ := I1.tuple hqy
      obtain ⟨oa, ha', _⟩ := id p1.isList
      obtain ⟨ob, hb', _⟩ := id (show s1.heap.IsTuple b its2.toArray from p2)
      refine zm_call p1.isList (show s1.heap.IsTuple b its2.toArray from p2) fun h' n en hz hTI hTO h1 h2 hsz hk => ?_
      have la : a < n := by rw [en]; exact Heap.lt_size ha'
      have lb : b < n := by rw [en]; exact Heap.lt_size hb'
      have C := sepZ n a b la lb
      have I2 : Inv X pins σ H1 { s1 with heap := h' } := I1.kept (t' := s1.toks) hk
      have hT : ({ s1 with heap := h' } : Shared).TypeIs (.ref (n + 4)) "zip" := ⟨_, hz, rfl⟩
      unfold PySem.W.StarOf notIterableAtAll
      refine wpAny_bind (wpAny_specialOf hT PySem.F.slot_zip_iter.lookup (wpAny_pure ⟨rfl, ?_⟩))
      refine zx_collect (I.ok.hd hc) C (Nat.ne_of_lt la) (Nat.ne_of_lt (Nat.lt_succ_of_lt lb)) rv rv2 ?_ hz hTI hTO ⟨h1, p1.isList.at fun o e => hk _ o e⟩ ⟨h2, Heap.IsTuple.at (show s1.heap.IsTuple b its2.toArray from p2) fun o e => hk _ o e⟩ I2 ?_ fun s3 H3 qs I3 L3 => ?_
      · have := rv.length; omega
      · intro c hcm
        have q' : c = n + 4 ∨ c = n + 3 ∨ c = n ∨ c = n + 1 := by simpa using hcm
        have hle : s1.heap.objs.size ≤ c := by
          rw [← en]
          rcases q' with z | z | z | z <;> rw [z]
          · exact Nat.le_add_right _ _
          · exact Nat.le_add_right _ _
          · exact Nat.le_refl _
          · exact Nat.le_add_right _ _
        exact I1.fpOk hle (I1.hok.fresh hle)
      · exact thn (hr.run pos' pins s3 σ H3 _ I3 (q qs H3 L3)) fun ws s4 ⟨vs, H4, I4, r4, q4⟩ => ⟨_, H4, I4, (vals_refs qs).append r4, q4⟩
end
end DL
end L2

/-! DL49: [*zip(a, b), ..] by its meaning -/
namespace L2
namespace DL
open PySem PySem.Spec PyProof.Rows
variable [HasW]
def twoD (p : D × D) : Vl := .dat (.tup [p.1, p.2])
def starZA (m r : Ev → M (List Vl)) : Ev → M (List Vl) := fun ρ => andThen (m ρ) fun vs G => match vs with
  | [x, y] => (match listD x G, tupD y with
    | some l, some k => andThen (r ρ) (fun ws => ret ((l.zip k).map twoD ++ ws)) G
    | _, _ => .no)
  | _ => .no
theorem laid_rel {K : PySem.W.Frag} {hd as : List Addr} {G : Gh} : ∀ {l k : List D} {xs ys : List V} {H H2 : Hp} {qs : List Addr}, Wd K hd as G H → RelDs K (Fz hd as G H) l xs → RelDs K (Fz hd as G H) k ys → Laid H (xs.zip ys) qs H2 →
    Ext hd as G H as G H2 ∧ Wd K hd as G H2 ∧ RelVls K as (Fz hd as G H2) ((l.zip k).map twoD) (qs.map V.ref) := by
  intro l
  induction l with
  | nil =>
    intro k xs ys H H2 qs w r1 r2 h
    cases r1
    rw [List.zip_nil_left] at h ⊢
    cases h
    exact ⟨Ext.refl _ _ _ _, w, .nil⟩
  | cons d l ih =>
    intro k xs ys H H2 qs w r1 r2 h
    cases r1 with
    | @cons _ x _ xs a1 b1 =>
    cases r2 with
    | nil =>
      rw [List.zip_nil_right] at h ⊢
      cases h
      exact ⟨Ext.refl _ _ _ _, w, .nil⟩
    | @cons d2 y k ys a2 b2 =>
      rw [List.zip_cons_cons] at h ⊢
      cases h with
      | @cons _ _ p _ _ _ ps hn t =>
      obtain ⟨w1, e1, f1⟩ := w.new (.tup [x, y]) hn
      obtain ⟨e2, w2, r2⟩ := ih w1 (b1.mono e1.keep) (b2.mono e1.keep) t
      refine ⟨e1.trans e2, w2, .cons ?_ r2⟩
      exact RelD.mono e2.keep (RelD.tup (SqT.of f1) (.cons (RelD.mono e1.keep a1) (.cons (RelD.mono e1.keep a2) .nil)))
section
variable {X : Cx} {W : WX} {e e2 : Expr} {es : List Expr} {m r : Ev → M (List Vl)} {p pos sp : Pos}
theorem qa_starZ (hc : X.calm = true) (hg : Gl X "zip") (hm : X.mg "zip" = none) (ha : QA X W [e, e2] m) (hr : QA X W es r)
    (hs : starEach [e, e2] X.env = (false, eval e X.env) :: starEach [e2] X.env := by rfl) (hpl : (backTo pos (starEach [e2] X.env)).any (·.1) = false := by rfl)
    (hst : starEach (.Starred (.Call (.Name "zip" p) [e, e2] [] pos) sp :: es) X.env = (true, eval (.Call (.Name "zip" p) [e, e2] [] pos) X.env) :: starEach es X.env := by rfl) :
    QA X W (.Starred (.Call (.Name "zip" p) [e, e2] [] pos) sp :: es) (starZA m r) :=
  (pa_starZ hc hg hm ha hr hs hpl hst).imp fun σ H Q ⟨hd, as, ρ, G, a, q⟩ => ⟨hd, as, ρ, G, a, (ResA.bindA q).mono fun v H1 ⟨as1, G1, x, e1, w1, r1, q1⟩ => by
    cases r1 with
    | nil => exact q1.elim
    | @cons x v _ _ ra rb =>
      cases rb with
      | nil => exact q1.elim
      | @cons y u _ _ rb rc =>
        cases rc with
        | cons _ _ => exact q1.elim
        | nil =>
          cases ek : listD x G1 with
          | none => simp only [ek] at q1; exact q1.elim
          | some l =>
            cases ek' : tupD y with
            | none => simp only [ek, ek'] at q1; exact q1.elim
            | some k =>
              simp only [ek, ek'] at q1
              obtain ⟨pa, xs, ev, h3, h4⟩ := listD_rel w1 ra ek
              obtain ⟨pb, ys, ev', h5, h6⟩ := tupD_rel rb ek'
              subst ev ev'
              refine ⟨pa, pb, xs, ys, rfl, .inl h3, h5, fun qs H2 L => ?_⟩
              obtain ⟨e3, w3, r3⟩ := laid_rel w1 h4 h6 L
              have q2 := ResA.pull e3 q1
              refine ⟨hd, as1, ρ, G1, (a.ext e1 w1).ext e3 w3, (ResA.bindA q2).mono fun vs H4 ⟨as2, G2, zs, e4, w4, r4, q4⟩ => ?_⟩
              exact q4 as2 H4 _ (Ext.refl _ _ _ _) w4 (pair_app (r3.ext e4) r4)⟩
end
end DL
end L2

namespace G
open PySem PySem.Spec PyProof.Rows L2 L2.DL
def m__law_jar : FD := runD true 5
    (seqS (setS 2 (ifE (boolD (opE ltO (vD 1) (callE (oneO lenO) (consA (vD 0) nilA)))) (opE ixO (vD 0) (vD 1)) (opE addO (opE mulO (cD (.int 31)) (vD 1)) (cD (.int 17)))))
    (seqS (setS 3 (opE mulO (opE modO (callE (oneO intAO) (consA (callE (oneO absO) (consA (vD 2) nilA)) nilA)) (opE powO (opE powO (cD (.int 10)) (cD (.int 60))) (cD (.int 5)))) (callE (oneO intAO) (consA (opE geO (callE (oneO absO) (consA (vD 2) nilA)) (opE powO (cD (.int 10)) (cD (.int 18)))) nilA))))
    (seqS (setS 4 (callE (oneO intAO) (consA (opE addO (opE addO (opE mulO (opE modO (callE (oneO intAO) (consA (vD 2) nilA)) (cD (.int 2305843009213693951))) (cD (.int 70901))) (opE mulO (opE mulO (cD (.int 8543)) (vD 1)) (vD 1))) (cD (.int 43))) nilA)))
    (retS (lstC (consA (vD 3) (consA (opE modO (vD 4) (cD (.int 2305843009213693921))) (consA (cD (.int 0)) nilA))))))))
def m__law_take : FD := runD false 5
    (seqS (ifS (boolD (opE gtO (opE ixO (vD 0) (cD (.int 0))) (cD (.int 0)))) (seqS (setS 2 (opE modO (callE (oneO intAO) (consA (opE ixO (vD 0) (cD (.int 0))) nilA)) (vD 1)))
    (seqS (putS (opE fdivO (opE ixO (vD 0) (cD (.int 0))) (vD 1)) (vD 0) (cD (.int 0)))
    (retS (vD 2)))) nextS)
    (seqS (putS (opE addO (opE ixO (vD 0) (cD (.int 2))) (cD (.int 1))) (vD 0) (cD (.int 2)))
    (seqS (setS 3 (opE ixO (lstE (consA (cD (.int 2147483647)) (consA (cD (.int 2147483629)) (consA (cD (.int 2147483587)) (consA (cD (.int 2147483579)) (consA (cD (.int 2147483563)) nilA)))))) (opE modO (callE (oneO intAO) (consA (opE ixO (vD 0) (cD (.int 2))) nilA)) (cD (.int 5)))))
    (seqS (setS 4 (opE modO (callE (oneO intAO) (consA (opE powO (opE addO (opE addO (opE ixO (vD 0) (cD (.int 1))) (opE mulO (opE mulO (cD (.int 99881)) (opE ixO (vD 0) (cD (.int 2)))) (opE ixO (vD 0) (cD (.int 2))))) (cD (.int 73))) (cD (.int 3))) nilA)) (vD 3)))
    (seqS (setS 4 (opE modO (callE (oneO intAO) (consA (opE mulO (vD 4) (opE addO (opE modO (callE (oneO intAO) (consA (vD 4) nilA)) (cD (.int 10009))) (opE mulO (cD (.int 97)) (opE ixO (vD 0) (cD (.int 2)))))) nilA)) (cD (.int 2305843009213693907))))
    (retS (opE modO (callE (oneO intAO) (consA (opE fdivO (vD 4) (cD (.int 89))) nilA)) (vD 1))))))))
def m__law_of : FD := runD false 2
    (retS (opE ixO (vD 1) (callF 2 m__law_take (consA (vD 0) (consA (callE (oneO lenO) (consA (vD 1) nilA)) nilA)))))
def m_split_line : FD := runD false 4
    (seqS (setS 1 (mtE isStr lstripO (vD 0) (consA (cD (.str " ")) nilA)))
    (seqS (parS (consA (opE subO (callE (oneO lenO) (consA (vD 0) nilA)) (callE (oneO lenO) (consA (vD 1) nilA))) (consA (mtE isStr splitO (vD 1) (consA (cD (.str " ")) nilA)) nilA)) (consG (nameG 2) (consG (nameG 3) nilG)))
    (retS (ifE (orT (boolD (opE neO (opE modO (vD 2) (cD (.int 2))) (cD (.int 0)))) (boolD (opE inO (cD (.str "")) (vD 3)))) (tupE (consA (unE negO (cD (.int 1))) (consA (lstE (consA (cD (.str "")) nilA)) nilA))) (tupE (consA (opE fdivO (vD 2) (cD (.int 2))) (consA (vD 3) nilA)))))))
def m_Source___init__ : FD := runK 3
    (seqS (fldS "Source" "split_lines" (vD 0) (finE lstF (lcM (valS (mtE isStr splitO (vD 1) (consA (cD (.str "\n")) nilA))) [2] (nameG 2) yesB (callF 1 m_split_line (consA (vD 2) nilA)))))
    (seqS (fldS "Source" "at" (vD 0) (cD (.int 0)))
    (seqS (fldS "Source" "words_of" (vD 0) dnewC)
    (seqS (fldS "Source" "shared_names" (vD 0) (lstC nilA))
    (seqS (fldS "Source" "told_groups" (vD 0) (lstC nilA))
    (seqS (fldS "Source" "opens" (vD 0) dnewC)
    (seqS (fldS "Source" "closes" (vD 0) dnewC)
    (fldS "Source" "told_checks" (vD 0) dnewN))))))))
def m_Source_is_next : FD := runK 5
    (seqS (ifS (boolD (opE eqO (fldE ["Source"] "at" (vD 0)) (callE (oneO lenO) (consA (fldE ["Source"] "split_lines" (vD 0)) nilA)))) (retS (cD (.bl false))) nextS)
    (seqS (parS (consA (opE eqO (opE ixO (opE ixO (fldE ["Source"] "split_lines" (vD 0)) (fldE ["Source"] "at" (vD 0))) (cD (.int 0))) (vD 1)) (consA (opE ixO (opE ixO (fldE ["Source"] "split_lines" (vD 0)) (fldE ["Source"] "at" (vD 0))) (cD (.int 1))) nilA)) (consG (nameG 3) (consG (nameG 4) nilG)))
    (retS (andV (vD 3) (opE inO (opE ixO (vD 4) (cD (.int 0))) (vD 2))))))
def m_Source_demand : FD := runK 2
    (ifS (notT (bD (vD 1))) (raiseS "BadText" (consA (fldE ["Source"] "at" (vD 0)) nilA)) nextS)
def m_is_name : FD := runD false 2
    (retS (andV (isiE (isK noOwn isStrK) (vD 0)) (andV (chainE leO leO (cD (.int 1)) (callE (oneO lenO) (consA (vD 0) nilA)) (cD (.int 8))) (callE (oneO allO) (consA (finE lstF (lcM (valS (vD 0)) [1] (nameG 1) yesB (opE inO (vD 1) (cD (.str "abcdefghijklmnopqrstuvwxyz"))))) nilA)))))
def m_is_plain : FD := runD false 1
    (retS (andV (callF 1 m_is_name (consA (vD 0) nilA)) (opE notInO (vD 0) (cD (.tup [(.str "cell"), (.str "shared"), (.str "group"), (.str "open"), (.str "close"), (.str "check"), (.str "set"), (.str "copy"), (.str "to"), (.str "want"), (.str "fail"), (.str "if"), (.str "else")])))))
def m_Source_take : FD := runK 2
    (seqS (setS 1 (opE ixO (opE ixO (fldE ["Source"] "split_lines" (vD 0)) (fldE ["Source"] "at" (vD 0))) (cD (.int 1))))
    (seqS (augF ["Source"] "at" (vD 0) (cD (.int 1)))
    (retS (vD 1))))
def m_Source_read_cell : FD := runK 5
    (seqS (starS 1 2 (opE ixO (opE ixO (fldE ["Source"] "split_lines" (vD 0)) (fldE ["Source"] "at" (vD 0))) (cD (.int 1))))
    (seqS (dropS (methA "Source" "demand" 2 m_Source_demand (vD 0) (consA (andV (chainE leO leO (cD (.int 4)) (opE addO (callE (oneO lenO) (consA (vD 2) nilA)) (cD (.int 1))) (cD (.int 5))) (callE (oneO allO) (consA (finE lstF (lcM (valS (vD 2)) [3] (nameG 3) yesB (callF 1 m_is_plain (consA (vD 3) nilA)))) nilA))) nilA)))
    (seqS (parS (consA (opE ixO (vD 2) (cD (.int 0))) (consA (sliceE (vD 2) (someP (cD (.int 1))) noP) nilA)) (consG (nameG 3) (consG (nameG 4) nilG)))
    (seqS (dropS (methA "Source" "demand" 2 m_Source_demand (vD 0) (consA (andV (opE notInO (vD 3) (fldE ["Source"] "words_of" (vD 0))) (andV (opE eqO (lenSetE (vD 4)) (callE (oneO lenO) (consA (vD 4) nilA))) (opE ltO (callE (oneO lenO) (consA (fldE ["Source"] "words_of" (vD 0)) nilA)) (cD (.int 8))))) nilA)))
    (seqS (dropS (methA "Source" "take" 1 m_Source_take (vD 0) nilA))
    (seqS (putS (callE (oneO tupleA) (consA (vD 4) nilA)) (fldE ["Source"] "words_of" (vD 0)) (vD 3))
    (ifS (boolD (opE eqO (vD 1) (cD (.str "shared")))) (dropS (mtE isList appendO (fldE ["Source"] "shared_names" (vD 0)) (consA (vD 3) nilA))) nextS)))))))
def m_Source_has_cell : FD := runK 3
    (retS (andV (opE inO (vD 1) (fldE ["Source"] "words_of" (vD 0))) (opE inO (vD 2) (opE ixO (fldE ["Source"] "words_of" (vD 0)) (vD 1)))))
def m_Source_read_if_1 : FD := runK 7
    (seqS (setS 4 (opE ixO (opE ixO (fldE ["Source"] "split_lines" (vD 0)) (fldE ["Source"] "at" (vD 0))) (cD (.int 1))))
    (seqS (dropS (methA "Source" "demand" 2 m_Source_demand (vD 0) (consA (andV (opE gtO (vD 3) (cD (.int 0))) (andV (opE eqO (callE (oneO lenO) (consA (vD 4) nilA)) (cD (.int 4))) (andV (opE eqO (opE ixO (vD 4) (cD (.int 2))) (cD (.str "="))) (methA "Source" "has_cell" 3 m_Source_has_cell (vD 0) (consA (opE ixO (vD 4) (cD (.int 1))) (consA (opE ixO (vD 4) (cD (.int 3))) nilA)))))) nilA)))
    (seqS (dropS (methA "Source" "take" 1 m_Source_take (vD 0) nilA))
    (seqS (parS (consA deadE (consA (tupE nilA) nilA)) (consG (nameG 5) (consG (nameG 6) nilG)))
    (seqS (ifS (bD (methA "Source" "is_next" 3 m_Source_is_next (vD 0) (consA (vD 1) (consA (tupE (consA (cD (.str "else")) nilA)) nilA)))) (seqS (dropS (methA "Source" "demand" 2 m_Source_demand (vD 0) (consA (opE eqO (opE ixO (opE ixO (fldE ["Source"] "split_lines" (vD 0)) (fldE ["Source"] "at" (vD 0))) (cD (.int 1))) (lstE (consA (cD (.str "else")) nilA))) nilA)))
    (seqS (dropS (methA "Source" "take" 1 m_Source_take (vD 0) nilA))
    (setS 6 deadE))) nextS)
    (retS (tupE (consA (cD (.str "if")) (consA (opE ixO (vD 4) (cD (.int 1))) (consA (opE ixO (vD 4) (cD (.int 3))) (consA (vD 5) (consA (vD 6) nilA))))))))))))
def m_Source_read_command_1 : FD := runK 5
    (seqS (setS 4 (opE ixO (opE ixO (fldE ["Source"] "split_lines" (vD 0)) (fldE ["Source"] "at" (vD 0))) (cD (.int 1))))
    (seqS (ifS (boolD (opE eqO (opE ixO (vD 4) (cD (.int 0))) (cD (.str "if")))) (retS (methA "Source" "read_if" 4 m_Source_read_if_1 (vD 0) (consA (vD 1) (consA (vD 2) (consA (vD 3) nilA))))) nextS)
    (seqS (ifS (boolD (opE eqO (opE ixO (vD 4) (cD (.int 0))) (cD (.str "copy")))) (seqS (dropS (methA "Source" "demand" 2 m_Source_demand (vD 0) (consA (andV (opE eqO (callE (oneO lenO) (consA (vD 4) nilA)) (cD (.int 4))) (andV (opE eqO (opE ixO (vD 4) (cD (.int 2))) (cD (.str "to"))) (opE inO (opE ixO (vD 4) (cD (.int 1))) (fldE ["Source"] "words_of" (vD 0))))) nilA)))
    (seqS (dropS (methA "Source" "demand" 2 m_Source_demand (vD 0) (consA (opE eqO (get2E (fldE ["Source"] "words_of" (vD 0)) (opE ixO (vD 4) (cD (.int 3))) (tupE nilA)) (opE ixO (fldE ["Source"] "words_of" (vD 0)) (opE ixO (vD 4) (cD (.int 1))))) nilA)))
    (seqS (dropS (methA "Source" "take" 1 m_Source_take (vD 0) nilA))
    (retS (tupE (consA (cD (.str "copy")) (consA (opE ixO (vD 4) (cD (.int 1))) (consA (opE ixO (vD 4) (cD (.int 3))) nilA)))))))) nextS)
    (seqS (ifS (boolD (opE eqO (opE ixO (vD 4) (cD (.int 0))) (cD (.str "fail")))) (dropS (methA "Source" "demand" 2 m_Source_demand (vD 0) (consA (andV (vD 2) (opE eqO (callE (oneO lenO) (consA (vD 4) nilA)) (cD (.int 1)))) nilA))) (dropS (methA "Source" "demand" 2 m_Source_demand (vD 0) (consA (andV (orV (vD 2) (opE eqO (opE ixO (vD 4) (cD (.int 0))) (cD (.str "set")))) (andV (opE eqO (callE (oneO lenO) (consA (vD 4) nilA)) (cD (.int 3))) (methA "Source" "has_cell" 3 m_Source_has_cell (vD 0) (consA (opE ixO (vD 4) (cD (.int 1))) (consA (opE ixO (vD 4) (cD (.int 2))) nilA))))) nilA))))
    (retS (callE (oneO tupleA) (consA (methA "Source" "take" 1 m_Source_take (vD 0) nilA) nilA)))))))
def m_Source_read_block_1 : FD := runK 6
    (seqS (setS 5 (lstC nilA))
    (seqS (whileL (orT (boolD (opE ltO (callE (oneO lenO) (consA (vD 5) nilA)) (vD 4))) (bD (methA "Source" "is_next" 3 m_Source_is_next (vD 0) (consA (vD 1) (consA (cD (.tup [(.str "set"), (.str "copy"), (.str "want"), (.str "fail"), (.str "if")])) nilA))))) (seqS (dropS (methA "Source" "demand" 2 m_Source_demand (vD 0) (consA (andV (methA "Source" "is_next" 3 m_Source_is_next (vD 0) (consA (vD 1) (consA (cD (.tup [(.str "set"), (.str "copy"), (.str "want"), (.str "fail"), (.str "if")])) nilA))) (opE ltO (callE (oneO lenO) (consA (vD 5) nilA)) (cD (.int 10)))) nilA)))
    (dropS (mtE isList appendO (vD 5) (consA (methA "Source" "read_command" 4 m_Source_read_command_1 (vD 0) (consA (vD 1) (consA (vD 2) (consA (vD 3) nilA)))) nilA)))) 40)
    (retS (callE (oneO tupleA) (consA (vD 5) nilA)))))
def m_Source_read_if_2 : FD := runK 7
    (seqS (setS 4 (opE ixO (opE ixO (fldE ["Source"] "split_lines" (vD 0)) (fldE ["Source"] "at" (vD 0))) (cD (.int 1))))
    (seqS (dropS (methA "Source" "demand" 2 m_Source_demand (vD 0) (consA (andV (opE gtO (vD 3) (cD (.int 0))) (andV (opE eqO (callE (oneO lenO) (consA (vD 4) nilA)) (cD (.int 4))) (andV (opE eqO (opE ixO (vD 4) (cD (.int 2))) (cD (.str "="))) (methA "Source" "has_cell" 3 m_Source_has_cell (vD 0) (consA (opE ixO (vD 4) (cD (.int 1))) (consA (opE ixO (vD 4) (cD (.int 3))) nilA)))))) nilA)))
    (seqS (dropS (methA "Source" "take" 1 m_Source_take (vD 0) nilA))
    (seqS (parS (consA (methA "Source" "read_block" 5 m_Source_read_block_1 (vD 0) (consA (opE addO (vD 1) (cD (.int 1))) (consA (vD 2) (consA (opE subO (vD 3) (cD (.int 1))) (consA (cD (.int 1)) nilA))))) (consA (tupE nilA) nilA)) (consG (nameG 5) (consG (nameG 6) nilG)))
    (seqS (ifS (bD (methA "Source" "is_next" 3 m_Source_is_next (vD 0) (consA (vD 1) (consA (tupE (consA (cD (.str "else")) nilA)) nilA)))) (seqS (dropS (methA "Source" "demand" 2 m_Source_demand (vD 0) (consA (opE eqO (opE ixO (opE ixO (fldE ["Source"] "split_lines" (vD 0)) (fldE ["Source"] "at" (vD 0))) (cD (.int 1))) (lstE (consA (cD (.str "else")) nilA))) nilA)))
    (seqS (dropS (methA "Source" "take" 1 m_Source_take (vD 0) nilA))
    (setS 6 (methA "Source" "read_block" 5 m_Source_read_block_1 (vD 0) (consA (opE addO (vD 1) (cD (.int 1))) (consA (vD 2) (consA (opE subO (vD 3) (cD (.int 1))) (consA (cD (.int 1)) nilA)))))))) nextS)
    (retS (tupE (consA (cD (.str "if")) (consA (opE ixO (vD 4) (cD (.int 1))) (consA (opE ixO (vD 4) (cD (.int 3))) (consA (vD 5) (consA (vD 6) nilA))))))))))))
def m_Source_read_command_2 : FD := runK 5
    (seqS (setS 4 (opE ixO (opE ixO (fldE ["Source"] "split_lines" (vD 0)) (fldE ["Source"] "at" (vD 0))) (cD (.int 1))))
    (seqS (ifS (boolD (opE eqO (opE ixO (vD 4) (cD (.int 0))) (cD (.str "if")))) (retS (methA "Source" "read_if" 4 m_Source_read_if_2 (vD 0) (consA (vD 1) (consA (vD 2) (consA (vD 3) nilA))))) nextS)
    (seqS (ifS (boolD (opE eqO (opE ixO (vD 4) (cD (.int 0))) (cD (.str "copy")))) (seqS (dropS (methA "Source" "demand" 2 m_Source_demand (vD 0) (consA (andV (opE eqO (callE (oneO lenO) (consA (vD 4) nilA)) (cD (.int 4))) (andV (opE eqO (opE ixO (vD 4) (cD (.int 2))) (cD (.str "to"))) (opE inO (opE ixO (vD 4) (cD (.int 1))) (fldE ["Source"] "words_of" (vD 0))))) nilA)))
    (seqS (dropS (methA "Source" "demand" 2 m_Source_demand (vD 0) (consA (opE eqO (get2E (fldE ["Source"] "words_of" (vD 0)) (opE ixO (vD 4) (cD (.int 3))) (tupE nilA)) (opE ixO (fldE ["Source"] "words_of" (vD 0)) (opE ixO (vD 4) (cD (.int 1))))) nilA)))
    (seqS (dropS (methA "Source" "take" 1 m_Source_take (vD 0) nilA))
    (retS (tupE (consA (cD (.str "copy")) (consA (opE ixO (vD 4) (cD (.int 1))) (consA (opE ixO (vD 4) (cD (.int 3))) nilA)))))))) nextS)
    (seqS (ifS (boolD (opE eqO (opE ixO (vD 4) (cD (.int 0))) (cD (.str "fail")))) (dropS (methA "Source" "demand" 2 m_Source_demand (vD 0) (consA (andV (vD 2) (opE eqO (callE (oneO lenO) (consA (vD 4) nilA)) (cD (.int 1)))) nilA))) (dropS (methA "Source" "demand" 2 m_Source_demand (vD 0) (consA (andV (orV (vD 2) (opE eqO (opE ixO (vD 4) (cD (.int 0))) (cD (.str "set")))) (andV (opE eqO (callE (oneO lenO) (consA (vD 4) nilA)) (cD (.int 3))) (methA "Source" "has_cell" 3 m_Source_has_cell (vD 0) (consA (opE ixO (vD 4) (cD (.int 1))) (consA (opE ixO (vD 4) (cD (.int 2))) nilA))))) nilA))))
    (retS (callE (oneO tupleA) (consA (methA "Source" "take" 1 m_Source_take (vD 0) nilA) nilA)))))))
def m_Source_read_block_2 : FD := runK 6
    (seqS (setS 5 (lstC nilA))
    (seqS (whileL (orT (boolD (opE ltO (callE (oneO lenO) (consA (vD 5) nilA)) (vD 4))) (bD (methA "Source" "is_next" 3 m_Source_is_next (vD 0) (consA (vD 1) (consA (cD (.tup [(.str "set"), (.str "copy"), (.str "want"), (.str "fail"), (.str "if")])) nilA))))) (seqS (dropS (methA "Source" "demand" 2 m_Source_demand (vD 0) (consA (andV (methA "Source" "is_next" 3 m_Source_is_next (vD 0) (consA (vD 1) (consA (cD (.tup [(.str "set"), (.str "copy"), (.str "want"), (.str "fail"), (.str "if")])) nilA))) (opE ltO (callE (oneO lenO) (consA (vD 5) nilA)) (cD (.int 10)))) nilA)))
    (dropS (mtE isList appendO (vD 5) (consA (methA "Source" "read_command" 4 m_Source_read_command_2 (vD 0) (consA (vD 1) (consA (vD 2) (consA (vD 3) nilA)))) nilA)))) 40)
    (retS (callE (oneO tupleA) (consA (vD 5) nilA)))))
def m_Source_read_if_3 : FD := runK 7
    (seqS (setS 4 (opE ixO (opE ixO (fldE ["Source"] "split_lines" (vD 0)) (fldE ["Source"] "at" (vD 0))) (cD (.int 1))))
    (seqS (dropS (methA "Source" "demand" 2 m_Source_demand (vD 0) (consA (andV (opE gtO (vD 3) (cD (.int 0))) (andV (opE eqO (callE (oneO lenO) (consA (vD 4) nilA)) (cD (.int 4))) (andV (opE eqO (opE ixO (vD 4) (cD (.int 2))) (cD (.str "="))) (methA "Source" "has_cell" 3 m_Source_has_cell (vD 0) (consA (opE ixO (vD 4) (cD (.int 1))) (consA (opE ixO (vD 4) (cD (.int 3))) nilA)))))) nilA)))
    (seqS (dropS (methA "Source" "take" 1 m_Source_take (vD 0) nilA))
    (seqS (parS (consA (methA "Source" "read_block" 5 m_Source_read_block_2 (vD 0) (consA (opE addO (vD 1) (cD (.int 1))) (consA (vD 2) (consA (opE subO (vD 3) (cD (.int 1))) (consA (cD (.int 1)) nilA))))) (consA (tupE nilA) nilA)) (consG (nameG 5) (consG (nameG 6) nilG)))
    (seqS (ifS (bD (methA "Source" "is_next" 3 m_Source_is_next (vD 0) (consA (vD 1) (consA (tupE (consA (cD (.str "else")) nilA)) nilA)))) (seqS (dropS (methA "Source" "demand" 2 m_Source_demand (vD 0) (consA (opE eqO (opE ixO (opE ixO (fldE ["Source"] "split_lines" (vD 0)) (fldE ["Source"] "at" (vD 0))) (cD (.int 1))) (lstE (consA (cD (.str "else")) nilA))) nilA)))
    (seqS (dropS (methA "Source" "take" 1 m_Source_take (vD 0) nilA))
    (setS 6 (methA "Source" "read_block" 5 m_Source_read_block_2 (vD 0) (consA (opE addO (vD 1) (cD (.int 1))) (consA (vD 2) (consA (opE subO (vD 3) (cD (.int 1))) (consA (cD (.int 1)) nilA)))))))) nextS)
    (retS (tupE (consA (cD (.str "if")) (consA (opE ixO (vD 4) (cD (.int 1))) (consA (opE ixO (vD 4) (cD (.int 3))) (consA (vD 5) (consA (vD 6) nilA))))))))))))
def m_Source_read_command_3 : FD := runK 5
    (seqS (setS 4 (opE ixO (opE ixO (fldE ["Source"] "split_lines" (vD 0)) (fldE ["Source"] "at" (vD 0))) (cD (.int 1))))
    (seqS (ifS (boolD (opE eqO (opE ixO (vD 4) (cD (.int 0))) (cD (.str "if")))) (retS (methA "Source" "read_if" 4 m_Source_read_if_3 (vD 0) (consA (vD 1) (consA (vD 2) (consA (vD 3) nilA))))) nextS)
    (seqS (ifS (boolD (opE eqO (opE ixO (vD 4) (cD (.int 0))) (cD (.str "copy")))) (seqS (dropS (methA "Source" "demand" 2 m_Source_demand (vD 0) (consA (andV (opE eqO (callE (oneO lenO) (consA (vD 4) nilA)) (cD (.int 4))) (andV (opE eqO (opE ixO (vD 4) (cD (.int 2))) (cD (.str "to"))) (opE inO (opE ixO (vD 4) (cD (.int 1))) (fldE ["Source"] "words_of" (vD 0))))) nilA)))
    (seqS (dropS (methA "Source" "demand" 2 m_Source_demand (vD 0) (consA (opE eqO (get2E (fldE ["Source"] "words_of" (vD 0)) (opE ixO (vD 4) (cD (.int 3))) (tupE nilA)) (opE ixO (fldE ["Source"] "words_of" (vD 0)) (opE ixO (vD 4) (cD (.int 1))))) nilA)))
    (seqS (dropS (methA "Source" "take" 1 m_Source_take (vD 0) nilA))
    (retS (tupE (consA (cD (.str "copy")) (consA (opE ixO (vD 4) (cD (.int 1))) (consA (opE ixO (vD 4) (cD (.int 3))) nilA)))))))) nextS)
    (seqS (ifS (boolD (opE eqO (opE ixO (vD 4) (cD (.int 0))) (cD (.str "fail")))) (dropS (methA "Source" "demand" 2 m_Source_demand (vD 0) (consA (andV (vD 2) (opE eqO (callE (oneO lenO) (consA (vD 4) nilA)) (cD (.int 1)))) nilA))) (dropS (methA "Source" "demand" 2 m_Source_demand (vD 0) (consA (andV (orV (vD 2) (opE eqO (opE ixO (vD 4) (cD (.int 0))) (cD (.str "set")))) (andV (opE eqO (callE (oneO lenO) (consA (vD 4) nilA)) (cD (.int 3))) (methA "Source" "has_cell" 3 m_Source_has_cell (vD 0) (consA (opE ixO (vD 4) (cD (.int 1))) (consA (opE ixO (vD 4) (cD (.int 2))) nilA))))) nilA))))
    (retS (callE (oneO tupleA) (consA (methA "Source" "take" 1 m_Source_take (vD 0) nilA) nilA)))))))
def m_Source_read_block_3 : FD := runK 6
    (seqS (setS 5 (lstC nilA))
    (seqS (whileL (orT (boolD (opE ltO (callE (oneO lenO) (consA (vD 5) nilA)) (vD 4))) (bD (methA "Source" "is_next" 3 m_Source_is_next (vD 0) (consA (vD 1) (consA (cD (.tup [(.str "set"), (.str "copy"), (.str "want"), (.str "fail"), (.str "if")])) nilA))))) (seqS (dropS (methA "Source" "demand" 2 m_Source_demand (vD 0) (consA (andV (methA "Source" "is_next" 3 m_Source_is_next (vD 0) (consA (vD 1) (consA (cD (.tup [(.str "set"), (.str "copy"), (.str "want"), (.str "fail"), (.str "if")])) nilA))) (opE ltO (callE (oneO lenO) (consA (vD 5) nilA)) (cD (.int 10)))) nilA)))
    (dropS (mtE isList appendO (vD 5) (consA (methA "Source" "read_command" 4 m_Source_read_command_3 (vD 0) (consA (vD 1) (consA (vD 2) (consA (vD 3) nilA)))) nilA)))) 40)
    (retS (callE (oneO tupleA) (consA (vD 5) nilA)))))
def m_Source_read_edge : FD := runK 2
    (seqS (ifS (notT (bD (methA "Source" "is_next" 3 m_Source_is_next (vD 0) (consA (cD (.int 1)) (consA (tupE (consA (vD 1) nilA)) nilA))))) (retS (tupE nilA)) nextS)
    (seqS (dropS (methA "Source" "demand" 2 m_Source_demand (vD 0) (consA (opE eqO (opE ixO (opE ixO (fldE ["Source"] "split_lines" (vD 0)) (fldE ["Source"] "at" (vD 0))) (cD (.int 1))) (lstE (consA (vD 1) nilA))) nilA)))
    (seqS (dropS (methA "Source" "take" 1 m_Source_take (vD 0) nilA))
    (retS (methA "Source" "read_block" 5 m_Source_read_block_3 (vD 0) (consA (cD (.int 2)) (consA (opE neO (vD 1) (cD (.str "close"))) (consA (cD (.int 2)) (consA (cD (.int 1)) nilA)))))))))
def m_Source_read_check : FD := runK 4
    (seqS (dropS (methA "Source" "demand" 2 m_Source_demand (vD 0) (consA (methA "Source" "is_next" 3 m_Source_is_next (vD 0) (consA (cD (.int 1)) (consA (tupE (consA (cD (.str "check")) nilA)) nilA))) nilA)))
    (seqS (dropS (methA "Source" "demand" 2 m_Source_demand (vD 0) (consA (opE ltO (callE (oneO lenO) (consA (vD 1) nilA)) (cD (.int 8))) nilA)))
    (seqS (setS 2 (opE ixO (opE ixO (fldE ["Source"] "split_lines" (vD 0)) (fldE ["Source"] "at" (vD 0))) (cD (.int 1))))
    (seqS (dropS (methA "Source" "demand" 2 m_Source_demand (vD 0) (consA (andV (opE eqO (callE (oneO lenO) (consA (vD 2) nilA)) (cD (.int 3))) (andV (callF 1 m_is_name (consA (opE ixO (vD 2) (cD (.int 1))) nilA)) (opE inO (opE ixO (vD 2) (cD (.int 2))) (cD (.tup [(.str "1"), (.str "2"), (.str "3"), (.str "4"), (.str "5"), (.str "6"), (.str "7"), (.str "8"), (.str "9")]))))) nilA)))
    (seqS (setS 3 (tupE (consA (opE ixO (vD 2) (cD (.int 1))) (consA (callE (oneO intAO) (consA (opE ixO (vD 2) (cD (.int 2))) nilA)) nilA))))
    (seqS (dropS (methA "Source" "demand" 2 m_Source_demand (vD 0) (consA (orV (opE eqO (vD 1) (lstE nilA)) (opE ltO (opE ixO (vD 1) (unE negO (cD (.int 1)))) (vD 3))) nilA)))
    (seqS (dropS (methA "Source" "demand" 2 m_Source_demand (vD 0) (consA (orV (opE (inNO false) (vD 3) (fldE ["Source"] "told_checks" (vD 0))) (opE ltO (callE (oneO lenNO) (consA (fldE ["Source"] "told_checks" (vD 0)) nilA)) (cD (.int 5)))) nilA)))
    (seqS (dropS (methA "Source" "take" 1 m_Source_take (vD 0) nilA))
    (seqS (putNS (methA "Source" "read_block" 5 m_Source_read_block_3 (vD 0) (consA (cD (.int 2)) (consA (cD (.bl true)) (consA (cD (.int 2)) (consA (cD (.int 0)) nilA))))) (fldE ["Source"] "told_checks" (vD 0)) (vD 3))
    (retS (vD 3)))))))))))
def m_Source_read_group : FD := runK 6
    (seqS (dropS (methA "Source" "demand" 2 m_Source_demand (vD 0) (consA (andV (methA "Source" "is_next" 3 m_Source_is_next (vD 0) (consA (cD (.int 0)) (consA (tupE (consA (cD (.str "group")) nilA)) nilA))) (opE ltO (callE (oneO lenO) (consA (fldE ["Source"] "told_groups" (vD 0)) nilA)) (cD (.int 3)))) nilA)))
    (seqS (setS 1 (opE ixO (opE ixO (fldE ["Source"] "split_lines" (vD 0)) (fldE ["Source"] "at" (vD 0))) (cD (.int 1))))
    (seqS (dropS (methA "Source" "demand" 2 m_Source_demand (vD 0) (consA (andV (opE eqO (callE (oneO lenO) (consA (vD 1) nilA)) (cD (.int 2))) (callF 1 m_is_name (consA (opE ixO (vD 1) (cD (.int 1))) nilA))) nilA)))
    (seqS (setS 2 (opE ixO (vD 1) (cD (.int 1))))
    (seqS (dropS (methA "Source" "demand" 2 m_Source_demand (vD 0) (consA (orV (opE eqO (fldE ["Source"] "told_groups" (vD 0)) (lstE nilA)) (opE ltO (opE ixO (opE ixO (fldE ["Source"] "told_groups" (vD 0)) (unE negO (cD (.int 1)))) (cD (.int 0))) (vD 2))) nilA)))
    (seqS (dropS (methA "Source" "take" 1 m_Source_take (vD 0) nilA))
    (seqS (putS (methA "Source" "read_edge" 2 m_Source_read_edge (vD 0) (consA (cD (.str "open")) nilA)) (fldE ["Source"] "opens" (vD 0)) (vD 2))
    (seqS (putS (methA "Source" "read_edge" 2 m_Source_read_edge (vD 0) (consA (cD (.str "close")) nilA)) (fldE ["Source"] "closes" (vD 0)) (vD 2))
    (seqS (setS 3 (lstC nilA))
    (seqS (whileL (orT (boolD (opE eqO (vD 3) (lstE nilA))) (bD (methA "Source" "is_next" 3 m_Source_is_next (vD 0) (consA (cD (.int 1)) (consA (tupE (consA (cD (.str "check")) nilA)) nilA))))) (dropS (mtE isList appendO (vD 3) (consA (methA "Source" "read_check" 2 m_Source_read_check (vD 0) (consA (vD 3) nilA)) nilA))) 40)
    (dropS (mtE isList appendO (fldE ["Source"] "told_groups" (vD 0)) (consA (tupE (consA (vD 2) (consA (callE (oneO tupleA) (consA (sortSetE (finE lstF (lcM (valS (vD 3)) [4, 5] (tupG 2 (consG (nameG 4) (consG (nameG 5) nilG))) yesB (vD 4)))) nilA)) nilA))) nilA)))))))))))))
def m_Source_read_all : FD := runK 1
    (seqS (whileL (bD (methA "Source" "is_next" 3 m_Source_is_next (vD 0) (consA (cD (.int 0)) (consA (tupE (consA (cD (.str "cell")) (consA (cD (.str "shared")) nilA))) nilA)))) (dropS (methA "Source" "read_cell" 1 m_Source_read_cell (vD 0) nilA)) 40)
    (seqS (whileL (orT (boolD (opE eqO (fldE ["Source"] "told_groups" (vD 0)) (lstE nilA))) (bD (methA "Source" "is_next" 3 m_Source_is_next (vD 0) (consA (cD (.int 0)) (consA (tupE (consA (cD (.str "group")) nilA)) nilA))))) (dropS (methA "Source" "read_group" 1 m_Source_read_group (vD 0) nilA)) 40)
    (dropS (methA "Source" "demand" 2 m_Source_demand (vD 0) (consA (opE eqO (fldE ["Source"] "at" (vD 0)) (callE (oneO lenO) (consA (fldE ["Source"] "split_lines" (vD 0)) nilA))) nilA)))))
def m_is_tuple : FD := runD false 3
    (retS (andV (isiE (isK noOwn isTupK) (vD 0)) (chainE leO leO (vD 1) (callE (oneO lenO) (consA (vD 0) nilA)) (vD 2))))
def m_is_ascending : FD := runD false 3
    (retS (callE (oneO allO) (consA (finE lstF (lcM (zip2S (consA (vD 0) (consA (sliceE (vD 0) (someP (cD (.int 1))) noP) nilA))) [1, 2] (tupG 2 (consG (nameG 1) (consG (nameG 2) nilG))) yesB (opE ltO (vD 1) (vD 2)))) nilA)))
def m_are_names : FD := runD false 4
    (retS (andV (callF 3 m_is_tuple (consA (vD 0) (consA (vD 1) (consA (vD 2) nilA)))) (andV (callE (oneO allO) (consA (finE lstF (lcM (valS (vD 0)) [3] (nameG 3) yesB (callF 1 m_is_name (consA (vD 3) nilA)))) nilA)) (callF 1 m_is_ascending (consA (vD 0) nilA)))))
def m_is_group : FD := runD false 1
    (retS (andV (callF 3 m_is_tuple (consA (vD 0) (consA (cD (.int 2)) (consA (cD (.int 2)) nilA)))) (andV (callF 1 m_is_name (consA (opE ixO (vD 0) (cD (.int 0))) nilA)) (callF 3 m_are_names (consA (opE ixO (vD 0) (cD (.int 1))) (consA (cD (.int 1)) (consA (cD (.int 4)) nilA)))))))
def m_are_different : FD := runD false 3
    (retS (callE (oneO allO) (consA (finE lstF (lcM (enumS (consA (vD 0) nilA)) [1, 2] (tupG 2 (consG (nameG 1) (consG (nameG 2) nilG))) yesB (opE notInO (vD 2) (sliceE (vD 0) (someP (opE addO (vD 1) (cD (.int 1)))) noP)))) nilA)))
def m_are_groups : FD := runD false 6
    (seqS (ifS (orT (notT (bD (callF 3 m_is_tuple (consA (vD 0) (consA (cD (.int 1)) (consA (cD (.int 3)) nilA)))))) (notT (bD (callE (oneO allO) (consA (finE lstF (lcM (valS (vD 0)) [2] (nameG 2) yesB (callF 1 m_is_group (consA (vD 2) nilA)))) nilA))))) (retS (cD (.bl false))) nextS)
    (seqS (setS 1 (finE lstF (lcM2 (valS (vD 0)) [3, 4, 5] (tupG 2 (consG (nameG 3) (consG (nameG 4) nilG))) yesB (valS (vD 4)) [5] (nameG 5) yesB (vD 5))))
    (seqS (ifS (orT (notT (bD (callF 1 m_is_ascending (consA (finE lstF (lcM (valS (vD 0)) [3, 4] (tupG 2 (consG (nameG 3) (consG (nameG 4) nilG))) yesB (vD 3))) nilA)))) (boolD (opE gtO (callE (oneO lenO) (consA (vD 1) nilA)) (cD (.int 5))))) (retS (cD (.bl false))) nextS)
    (retS (callF 1 m_are_different (consA (opE addO (vD 1) (finE lstF (lcM (valS (vD 0)) [3, 4] (tupG 2 (consG (nameG 3) (consG (nameG 4) nilG))) yesB (vD 3)))) nilA))))))
def m_Shop___init__ : FD := runK 5
    (seqS (ifS (notT (bD (callF 1 m_are_groups (consA (vD 1) nilA)))) (raiseS "BadShop" (consA (vD 1) nilA)) nextS)
    (seqS (fldS "Shop" "own_groups" (vD 0) (vD 1))
    (fldS "Shop" "group_by_check" (vD 0) (finD dctF (dcM2 (valS (vD 1)) [2, 3, 4] (tupG 2 (consG (nameG 2) (consG (nameG 3) nilG))) yesB (valS (vD 3)) [4] (nameG 4) yesB (vD 4) (vD 2))))))
def m_Glass___init__ : FD := runK 2
    (seqS (ifS (notT (bD (isiE (isK noOwn isStrK) (vD 1)))) (raiseS "BadText" (consA (cD (.int 0)) nilA)) nextS)
    (seqS (fldS "Glass" "own_text" (vD 0) (vD 1))
    (seqS (fldS "Glass" "source" (vD 0) (makeA "Source" 2 m_Source___init__ true (consA (vD 1) nilA)))
    (seqS (dropS (methA "Source" "read_all" 1 m_Source_read_all (fldE ["Glass"] "source" (vD 0)) nilA))
    (fldS "Glass" "own_shop" (vD 0) (makeA "Shop" 2 m_Shop___init__ true (consA (callE (oneO tupleA) (consA (fldE ["Source"] "told_groups" (fldE ["Glass"] "source" (vD 0))) nilA)) nilA)))))))
def m_is_integer : FD := runD false 1
    (retS (andV (isiE (isK noOwn isIntK) (vD 0)) (notV (isiE (isK noOwn isBoolK) (vD 0)))))
def m_Glass_is_item : FD := runK 2
    (seqS (ifS (orT (notT (bD (isiE (isK noOwn isTupK) (vD 1)))) (orT (boolD (opE neO (callE (oneO lenO) (consA (vD 1) nilA)) (cD (.int 2)))) (notT (bD (isiE (isK noOwn isStrK) (opE ixO (vD 1) (cD (.int 0)))))))) (retS (cD (.bl false))) nextS)
    (retS (andV (callF 1 m_is_integer (consA (opE ixO (vD 1) (cD (.int 1))) nilA)) (opE (inNO false) (vD 1) (fldE ["Source"] "told_checks" (fldE ["Glass"] "source" (vD 0)))))))
def m_is_between : FD := runD false 3
    (retS (andV (callF 1 m_is_integer (consA (vD 0) nilA)) (chainE leO leO (vD 1) (vD 0) (vD 2))))
def m_Glass_cells : FD := runK 4
    (seqS (setS 1 (fldE ["Source"] "shared_names" (fldE ["Glass"] "source" (vD 0))))
    (retS (callE (oneO tupleA) (consA (finE lstF (lcM (dS2 itemsOf 0 "Glass" "source" "Source" "words_of") [2, 3] (tupG 2 (consG (nameG 2) (consG (nameG 3) nilG))) yesB (tupE (consA (vD 2) (consA (vD 3) (consA (opE inO (vD 2) (vD 1)) nilA)))))) nilA))))
def m_Glass_names_of : FD := runK 5
    (retS (finE lstF (lcM (valS (propE "Glass" m_Glass_cells (vD 0))) [2, 3, 4] (tupG 3 (consG (nameG 2) (consG (nameG 3) (consG (nameG 4) nilG)))) (boolD (opE eqO (vD 4) (vD 1))) (vD 2))))
def m_Glass_first_words : FD := runK 3
    (retS (callE (oneO tupleA) (consA (finE lstF (lcM (valS (methA "Glass" "names_of" 2 m_Glass_names_of (vD 0) (consA (vD 1) nilA))) [2] (nameG 2) yesB (opE ixO (opE ixO (fldE ["Source"] "words_of" (fldE ["Glass"] "source" (vD 0))) (vD 2)) (cD (.int 0))))) nilA)))
def m_Glass_start : FD := runK 2
    (seqS (ifS (notT (bD (callF 3 m_is_between (consA (vD 1) (consA (cD (.int 1)) (consA (cD (.int 3)) nilA)))))) (raiseS "BadMany" (consA (vD 1) nilA)) nextS)
    (retS (tupE (consA (opE mulT (tupE (consA (tupE (consA (cD (.str "")) (consA (methA "Glass" "first_words" 2 m_Glass_first_words (vD 0) (consA (cD (.bl false)) nilA)) nilA))) nilA)) (vD 1)) (consA (methA "Glass" "first_words" 2 m_Glass_first_words (vD 0) (consA (cD (.bl true)) nilA)) nilA)))))
def m_Glass_check_worker : FD := runK 3
    (ifS (notT (bD (callF 3 m_is_between (consA (vD 2) (consA (cD (.int 0)) (consA (opE subO (callE (oneO lenO) (consA (opE ixO (vD 1) (cD (.int 0))) nilA)) (cD (.int 1))) nilA)))))) (raiseS "NoWorker" (consA (vD 2) nilA)) nextS)
def m_is_word : FD := runD false 2
    (retS (andV (isiE (isK noOwn isStrK) (vD 0)) (opE inO (vD 0) (vD 1))))
def m_Shop_group_of : FD := runK 2
    (seqS (ifS (notT (bD (callF 2 m_is_word (consA (vD 1) (consA (callE (oneO tupleA) (consA (fldE ["Shop"] "group_by_check" (vD 0)) nilA)) nilA))))) (raiseS "NoCheck" (consA (vD 1) nilA)) nextS)
    (retS (opE ixO (fldE ["Shop"] "group_by_check" (vD 0)) (vD 1))))
def m_fails_1 : FD := runD false 5
    (seqS (forS (valS (vD 0)) (nameG 2) (seqS (ifS (boolD (opE eqO (opE ixO (vD 2) (cD (.int 0))) (cD (.str "fail")))) (retS (cD (.bl true))) nextS)
    (seqS (asgS (sliceE (vD 2) noP (someP (cD (.int 2)))) (tupG 2 (consG (nameG 3) (consG (nameG 4) nilG))))
    (ifS (boolD (opE eqO (vD 3) (cD (.str "set")))) (putS (opE ixO (vD 2) (cD (.int 2))) (vD 1) (vD 4)) (ifS (boolD (opE eqO (vD 3) (cD (.str "copy")))) (putS (opE ixO (vD 1) (vD 4)) (vD 1) (opE ixO (vD 2) (cD (.int 2)))) (ifS (boolD (opE eqO (vD 3) (cD (.str "if")))) (ifS (bD deadE) (retS (cD (.bl true))) nextS) (ifS (boolD (opE neO (opE ixO (vD 1) (vD 4)) (opE ixO (vD 2) (cD (.int 2))))) (retS (cD (.bl true))) nextS)))))))
    (retS (cD (.bl false))))
def m_fails_2 : FD := runD false 5
    (seqS (forS (valS (vD 0)) (nameG 2) (seqS (ifS (boolD (opE eqO (opE ixO (vD 2) (cD (.int 0))) (cD (.str "fail")))) (retS (cD (.bl true))) nextS)
    (seqS (asgS (sliceE (vD 2) noP (someP (cD (.int 2)))) (tupG 2 (consG (nameG 3) (consG (nameG 4) nilG))))
    (ifS (boolD (opE eqO (vD 3) (cD (.str "set")))) (putS (opE ixO (vD 2) (cD (.int 2))) (vD 1) (vD 4)) (ifS (boolD (opE eqO (vD 3) (cD (.str "copy")))) (putS (opE ixO (vD 1) (vD 4)) (vD 1) (opE ixO (vD 2) (cD (.int 2)))) (ifS (boolD (opE eqO (vD 3) (cD (.str "if")))) (ifS (bD (callF 2 m_fails_1 (consA (ifE (boolD (opE eqO (opE ixO (vD 1) (vD 4)) (opE ixO (vD 2) (cD (.int 2))))) (opE ixO (vD 2) (cD (.int 3))) (opE ixO (vD 2) (cD (.int 4)))) (consA (vD 1) nilA)))) (retS (cD (.bl true))) nextS) (ifS (boolD (opE neO (opE ixO (vD 1) (vD 4)) (opE ixO (vD 2) (cD (.int 2))))) (retS (cD (.bl true))) nextS)))))))
    (retS (cD (.bl false))))
def m_fails_3 : FD := runD false 5
    (seqS (forS (valS (vD 0)) (nameG 2) (seqS (ifS (boolD (opE eqO (opE ixO (vD 2) (cD (.int 0))) (cD (.str "fail")))) (retS (cD (.bl true))) nextS)
    (seqS (asgS (sliceE (vD 2) noP (someP (cD (.int 2)))) (tupG 2 (consG (nameG 3) (consG (nameG 4) nilG))))
    (ifS (boolD (opE eqO (vD 3) (cD (.str "set")))) (putS (opE ixO (vD 2) (cD (.int 2))) (vD 1) (vD 4)) (ifS (boolD (opE eqO (vD 3) (cD (.str "copy")))) (putS (opE ixO (vD 1) (vD 4)) (vD 1) (opE ixO (vD 2) (cD (.int 2)))) (ifS (boolD (opE eqO (vD 3) (cD (.str "if")))) (ifS (bD (callF 2 m_fails_2 (consA (ifE (boolD (opE eqO (opE ixO (vD 1) (vD 4)) (opE ixO (vD 2) (cD (.int 2))))) (opE ixO (vD 2) (cD (.int 3))) (opE ixO (vD 2) (cD (.int 4)))) (consA (vD 1) nilA)))) (retS (cD (.bl true))) nextS) (ifS (boolD (opE neO (opE ixO (vD 1) (vD 4)) (opE ixO (vD 2) (cD (.int 2))))) (retS (cD (.bl true))) nextS)))))))
    (retS (cD (.bl false))))
def m_Glass_run_on : FD := runK 5
    (seqS (setS 4 (methA "Shop" "group_of" 2 m_Shop_group_of (fldE ["Glass"] "own_shop" (vD 0)) (consA (opE ixO (vD 3) (cD (.int 0))) nilA)))
    (seqS (ifS (boolD (opE neO (vD 2) (vD 4))) (seqS (ifS (boolD (opE neO (vD 2) (cD (.str "")))) (dropS (callF 2 m_fails_3 (consA (opE ixO (fldE ["Source"] "closes" (fldE ["Glass"] "source" (vD 0))) (vD 2)) (consA (vD 1) nilA)))) nextS)
    (ifS (bD (callF 2 m_fails_3 (consA (opE ixO (fldE ["Source"] "opens" (fldE ["Glass"] "source" (vD 0))) (vD 4)) (consA (vD 1) nilA)))) (retS (tupE (consA (cD (.str "skip")) (consA (cD (.str "")) nilA)))) nextS)) nextS)
    (retS (tupE (consA (ifE (bD (callF 2 m_fails_3 (consA (opE ixNO (fldE ["Source"] "told_checks" (fldE ["Glass"] "source" (vD 0))) (vD 3)) (consA (vD 1) nilA)))) (cD (.str "fail")) (cD (.str "pass"))) (consA (vD 4) nilA))))))
def m_Glass_after : FD := runK 14
    (seqS (dropS (methA "Glass" "check_worker" 3 m_Glass_check_worker (vD 0) (consA (vD 1) (consA (vD 2) nilA))))
    (seqS (ifS (notT (bD (methA "Glass" "is_item" 2 m_Glass_is_item (vD 0) (consA (vD 3) nilA)))) (raiseS "NoItem" (consA (vD 3) nilA)) nextS)
    (seqS (asgS (vD 1) (tupG 2 (consG (nameG 4) (consG (nameG 5) nilG))))
    (seqS (parS (consA (methA "Glass" "names_of" 2 m_Glass_names_of (vD 0) (consA (cD (.bl false)) nilA)) (consA (methA "Glass" "names_of" 2 m_Glass_names_of (vD 0) (consA (cD (.bl true)) nilA)) nilA)) (consG (nameG 6) (consG (nameG 7) nilG)))
    (seqS (setS 8 (callE (oneO dictC) (consA (lstE (starZA (consA (vD 6) (consA (opE ixO (opE ixO (vD 4) (vD 2)) (cD (.int 1))) nilA)) (starZA (consA (vD 7) (consA (vD 5) nilA)) nilA))) nilA)))
    (seqS (asgS (methA "Glass" "run_on" 4 m_Glass_run_on (vD 0) (consA (vD 8) (consA (opE ixO (opE ixO (vD 4) (vD 2)) (cD (.int 0))) (consA (vD 3) nilA)))) (tupG 2 (consG (nameG 9) (consG (nameG 10) nilG))))
    (seqS (setS 11 (tupE (consA (vD 10) (consA (callE (oneO tupleA) (consA (finE lstF (lcM (valS (vD 6)) [13] (nameG 13) yesB (opE ixO (vD 8) (vD 13)))) nilA)) nilA))))
    (seqS (setS 12 (tupE (starA (sliceE (vD 4) noP (someP (vD 2))) (consA (vD 11) (starA (sliceE (vD 4) (someP (opE addO (vD 2) (cD (.int 1)))) noP) nilA)))))
    (retS (tupE (consA (vD 9) (consA (tupE (consA (vD 12) (consA (callE (oneO tupleA) (consA (finE lstF (lcM (valS (vD 7)) [13] (nameG 13) yesB (opE ixO (vD 8) (vD 13)))) nilA)) nilA))) nilA))))))))))))
def m_Glass_outcomes : FD := runK 6
    (seqS (ifS (orT (notT (bD (isiE (isK noOwn isTupK) (vD 1)))) (orT (boolD (opE gtO (callE (oneO lenO) (consA (vD 1) nilA)) (cD (.int 12)))) (notT (bD (callE (oneO allO) (consA (finE lstF (lcM (valS (vD 1)) [4] (nameG 4) yesB (methA "Glass" "is_item" 2 m_Glass_is_item (vD 0) (consA (vD 4) nilA)))) nilA)))))) (raiseS "BadOrder" (consA (vD 1) nilA)) nextS)
    (seqS (parS (consA (methA "Glass" "start" 2 m_Glass_start (vD 0) (consA (cD (.int 1)) nilA)) (consA (lstC nilA) nilA)) (consG (nameG 2) (consG (nameG 3) nilG)))
    (seqS (forS (valS (vD 1)) (nameG 4) (seqS (asgS (methA "Glass" "after" 4 m_Glass_after (vD 0) (consA (vD 2) (consA (cD (.int 0)) (consA (vD 4) nilA)))) (tupG 2 (consG (nameG 5) (consG (nameG 2) nilG))))
    (dropS (mtE isList appendO (vD 3) (consA (vD 5) nilA)))))
    (retS (callE (oneO tupleA) (consA (vD 3) nilA))))))
def m_Glass_freshened : FD := runK 5
    (seqS (dropS (methA "Glass" "check_worker" 3 m_Glass_check_worker (vD 0) (consA (vD 1) (consA (vD 2) nilA))))
    (seqS (asgS (vD 1) (tupG 2 (consG (nameG 3) (consG (nameG 4) nilG))))
    (retS (tupE (consA (tupE (starA (sliceE (vD 3) noP (someP (vD 2))) (consA (tupE (consA (cD (.str "")) (consA (methA "Glass" "first_words" 2 m_Glass_first_words (vD 0) (consA (cD (.bl false)) nilA)) nilA))) (starA (sliceE (vD 3) (someP (opE addO (vD 2) (cD (.int 1)))) noP) nilA)))) (consA (vD 4) nilA))))))
def m_Glass_cleared : FD := runK 2
    (retS (tupE (consA (opE ixO (vD 1) (cD (.int 0))) (consA (methA "Glass" "first_words" 2 m_Glass_first_words (vD 0) (consA (cD (.bl true)) nilA)) nilA))))
def m__law_stays_right : FD := runD false 12
    (seqS (setS 4 (lstE (consA (opE addO (opE addO (opE addO (opE addO (opE addO (cD (.str "cell ")) (vD 0)) (cD (.str " "))) (vD 2)) (cD (.str " "))) (vD 3)) (consA (opE addO (opE addO (opE addO (opE addO (opE addO (cD (.str "shared ")) (vD 1)) (cD (.str " "))) (vD 2)) (cD (.str " "))) (vD 3)) (consA (cD (.str "group g")) nilA)))))
    (seqS (setS 4 (opE addO (vD 4) (lstE (consA (cD (.str "  check a 1")) (consA (opE addO (opE addO (opE addO (cD (.str "    set ")) (vD 0)) (cD (.str " "))) (vD 3)) (consA (opE addO (opE addO (opE addO (cD (.str "    want ")) (vD 1)) (cD (.str " "))) (vD 3)) (consA (opE addO (opE addO (opE addO (cD (.str "    set ")) (vD 0)) (cD (.str " "))) (vD 2)) nilA)))))))
    (seqS (setS 4 (opE addO (vD 4) (lstE (consA (cD (.str "  check b 1")) (consA (opE addO (opE addO (opE addO (cD (.str "    set ")) (vD 1)) (cD (.str " "))) (vD 3)) (consA (cD (.str "  check v 1")) (consA (opE addO (opE addO (opE addO (cD (.str "    want ")) (vD 0)) (cD (.str " "))) (vD 2)) nilA)))))))
    (seqS (parS (consA (makeA "Glass" 2 m_Glass___init__ false (consA (mtE isStr joinO (cD (.str "\n")) (consA (vD 4) nilA)) nilA)) (consA (tupE (consA (cD (.str "a")) (consA (cD (.int 1)) nilA))) (consA (tupE (consA (cD (.str "b")) (consA (cD (.int 1)) nilA))) (consA (tupE (consA (cD (.str "v")) (consA (cD (.int 1)) nilA))) nilA)))) (consG (nameG 5) (consG (nameG 6) (consG (nameG 7) (consG (nameG 8) nilG)))))
    (seqS (setS 9 (lstE (consA (methA "Glass" "outcomes" 2 m_Glass_outcomes (vD 5) (consA (tupE (consA (vD 6) (consA (vD 8) nilA))) nilA)) (consA (methA "Glass" "outcomes" 2 m_Glass_outcomes (vD 5) (consA (tupE (consA (vD 8) (consA (vD 7) (consA (vD 6) (consA (vD 8) nilA))))) nilA)) nilA))))
    (seqS (ifS (boolD (opE neO (vD 9) (lstE (consA (tupE (consA (cD (.str "fail")) (consA (cD (.str "fail")) nilA))) (consA (tupE (consA (cD (.str "pass")) (consA (cD (.str "pass")) (consA (cD (.str "pass")) (consA (cD (.str "pass")) nilA))))) nilA))))) (retS (cD (.bl false))) nextS)
    (seqS (setS 10 (methA "Glass" "start" 2 m_Glass_start (vD 5) (consA (cD (.int 2)) nilA)))
    (seqS (ifS (boolD (opE neO (methA "Glass" "after" 4 m_Glass_after (vD 5) (consA (vD 10) (consA (cD (.int 1)) (consA (vD 6) nilA)))) (tupE (consA (cD (.str "fail")) (consA (tupE (consA (tupE (consA (tupE (consA (cD (.str "")) (consA (tupE (consA (vD 2) nilA)) nilA))) (consA (tupE (consA (cD (.str "g")) (consA (tupE (consA (vD 3) nilA)) nilA))) nilA))) (consA (tupE (consA (vD 2) nilA)) nilA))) nilA))))) (retS (cD (.bl false))) nextS)
    (seqS (setS 11 (opE ixO (methA "Glass" "after" 4 m_Glass_after (vD 5) (consA (opE ixO (methA "Glass" "after" 4 m_Glass_after (vD 5) (consA (vD 10) (consA (cD (.int 1)) (consA (vD 6) nilA)))) (cD (.int 1))) (consA (cD (.int 0)) (consA (vD 7) nilA)))) (cD (.int 1))))
    (seqS (ifS (orT (boolD (opE neO (vD 11) (tupE (consA (tupE (consA (tupE (consA (cD (.str "g")) (consA (tupE (consA (vD 2) nilA)) nilA))) (consA (tupE (consA (cD (.str "g")) (consA (tupE (consA (vD 3) nilA)) nilA))) nilA))) (consA (tupE (consA (vD 3) nilA)) nilA))))) (boolD (opE neO (opE ixO (methA "Glass" "after" 4 m_Glass_after (vD 5) (consA (vD 11) (consA (cD (.int 1)) (consA (vD 8) nilA)))) (cD (.int 0))) (cD (.str "fail"))))) (retS (cD (.bl false))) nextS)
    (seqS (ifS (boolD (opE neO (methA "Glass" "freshened" 3 m_Glass_freshened (vD 5) (consA (vD 11) (consA (cD (.int 1)) nilA))) (tupE (consA (tupE (consA (tupE (consA (cD (.str "g")) (consA (tupE (consA (vD 2) nilA)) nilA))) (consA (tupE (consA (cD (.str "")) (consA (tupE (consA (vD 2) nilA)) nilA))) nilA))) (consA (tupE (consA (vD 3) nilA)) nilA))))) (retS (cD (.bl false))) nextS)
    (retS (andV (opE eqO (methA "Glass" "cleared" 2 m_Glass_cleared (vD 5) (consA (vD 11) nilA)) (tupE (consA (tupE (consA (tupE (consA (cD (.str "g")) (consA (tupE (consA (vD 2) nilA)) nilA))) (consA (tupE (consA (cD (.str "g")) (consA (tupE (consA (vD 3) nilA)) nilA))) nilA))) (consA (tupE (consA (vD 2) nilA)) nilA)))) (opE eqO (opE ixO (methA "Glass" "after" 4 m_Glass_after (vD 5) (consA (vD 11) (consA (cD (.int 0)) (consA (vD 8) nilA)))) (cD (.int 0))) (cD (.str "pass"))))))))))))))))
def m__law_opens_right : FD := runD false 11
    (seqS (setS 4 (lstE (consA (opE addO (opE addO (opE addO (opE addO (opE addO (cD (.str "cell ")) (vD 0)) (cD (.str " "))) (vD 2)) (cD (.str " "))) (vD 3)) (consA (opE addO (opE addO (opE addO (opE addO (opE addO (cD (.str "shared ")) (vD 1)) (cD (.str " "))) (vD 2)) (cD (.str " "))) (vD 3)) (consA (cD (.str "group g")) (consA (cD (.str "  open")) nilA))))))
    (seqS (setS 4 (opE addO (vD 4) (lstE (consA (opE addO (opE addO (opE addO (cD (.str "    set ")) (vD 1)) (cD (.str " "))) (vD 3)) (consA (opE addO (opE addO (opE addO (cD (.str "    want ")) (vD 0)) (cD (.str " "))) (vD 2)) (consA (opE addO (opE addO (opE addO (cD (.str "    set ")) (vD 1)) (cD (.str " "))) (vD 2)) (consA (cD (.str "  close")) nilA)))))))
    (seqS (setS 4 (opE addO (vD 4) (lstE (consA (opE addO (opE addO (opE addO (cD (.str "    set ")) (vD 0)) (cD (.str " "))) (vD 3)) (consA (cD (.str "  check a 1")) (consA (cD (.str "group h")) (consA (cD (.str "  check b 1")) (consA (opE addO (opE addO (opE addO (cD (.str "    set ")) (vD 1)) (cD (.str " "))) (vD 2)) nilA))))))))
    (seqS (parS (consA (makeA "Glass" 2 m_Glass___init__ false (consA (mtE isStr joinO (cD (.str "\n")) (consA (vD 4) nilA)) nilA)) (consA (tupE (consA (cD (.str "a")) (consA (cD (.int 1)) nilA))) (consA (tupE (consA (cD (.str "b")) (consA (cD (.int 1)) nilA))) nilA))) (consG (nameG 5) (consG (nameG 6) (consG (nameG 7) nilG))))
    (seqS (ifS (boolD (opE neO (methA "Glass" "outcomes" 2 m_Glass_outcomes (vD 5) (consA (tupE (consA (vD 6) (consA (vD 7) (consA (vD 6) (consA (vD 6) (consA (vD 7) (consA (vD 6) nilA))))))) nilA)) (tupE (consA (cD (.str "pass")) (consA (cD (.str "pass")) (consA (cD (.str "skip")) (consA (cD (.str "skip")) (consA (cD (.str "pass")) (consA (cD (.str "skip")) nilA))))))))) (retS (cD (.bl false))) nextS)
    (seqS (setS 8 (methA "Glass" "start" 2 m_Glass_start (vD 5) (consA (cD (.int 1)) nilA)))
    (seqS (forS (valS (lstE (consA (tupE (consA (vD 6) (consA (tupE (consA (cD (.str "g")) (consA (vD 2) (consA (vD 2) nilA)))) nilA))) (consA (tupE (consA (vD 6) (consA (tupE (consA (cD (.str "g")) (consA (vD 2) (consA (vD 2) nilA)))) nilA))) (consA (tupE (consA (vD 7) (consA (tupE (consA (cD (.str "h")) (consA (vD 3) (consA (vD 2) nilA)))) nilA))) (consA (tupE (consA (vD 6) (consA (tupE (consA (cD (.str "")) (consA (vD 3) (consA (vD 3) nilA)))) nilA))) (consA (tupE (consA (vD 7) (consA (tupE (consA (cD (.str "h")) (consA (vD 3) (consA (vD 2) nilA)))) nilA))) nilA))))))) (tupG 2 (consG (nameG 9) (consG (nameG 10) nilG))) (seqS (setS 8 (opE ixO (methA "Glass" "after" 4 m_Glass_after (vD 5) (consA (vD 8) (consA (cD (.int 0)) (consA (vD 9) nilA)))) (cD (.int 1))))
    (ifS (boolD (opE neO (vD 8) (tupE (consA (tupE (consA (tupE (consA (opE ixO (vD 10) (cD (.int 0))) (consA (tupE (consA (opE ixO (vD 10) (cD (.int 1))) nilA)) nilA))) nilA)) (consA (tupE (consA (opE ixO (vD 10) (cD (.int 2))) nilA)) nilA))))) (retS (cD (.bl false))) nextS)))
    (retS (opE eqO (methA "Glass" "after" 4 m_Glass_after (vD 5) (consA (methA "Glass" "freshened" 3 m_Glass_freshened (vD 5) (consA (vD 8) (consA (cD (.int 0)) nilA))) (consA (cD (.int 0)) (consA (vD 6) nilA)))) (tupE (consA (cD (.str "pass")) (consA (tupE (consA (tupE (consA (tupE (consA (cD (.str "g")) (consA (tupE (consA (vD 2) nilA)) nilA))) nilA)) (consA (tupE (consA (vD 2) nilA)) nilA))) nilA))))))))))))
def m__law_turns_right : FD := runD false 14
    (seqS (asgS (vD 2) (tupG 3 (consG (nameG 4) (consG (nameG 5) (consG (nameG 6) nilG)))))
    (seqS (setS 7 (lstE (consA (opE addO (opE addO (opE addO (cD (.str "cell ")) (vD 0)) (cD (.str " "))) (mtE isStr joinO (cD (.str " ")) (consA (vD 2) nilA))) (consA (opE addO (opE addO (opE addO (cD (.str "cell ")) (vD 1)) (cD (.str " "))) (mtE isStr joinO (cD (.str " ")) (consA (vD 2) nilA))) (consA (cD (.str "group g")) (consA (cD (.str "  check a 1")) nilA))))))
    (seqS (setS 7 (opE addO (vD 7) (lstE (consA (opE addO (opE addO (opE addO (cD (.str "    if ")) (vD 0)) (cD (.str " = "))) (vD 4)) (consA (opE addO (opE addO (opE addO (cD (.str "      set ")) (vD 0)) (cD (.str " "))) (vD 5)) (consA (cD (.str "    else")) (consA (opE addO (opE addO (opE addO (cD (.str "      if ")) (vD 0)) (cD (.str " = "))) (vD 5)) nilA)))))))
    (seqS (setS 7 (opE addO (vD 7) (lstE (consA (opE addO (opE addO (opE addO (cD (.str "        set ")) (vD 0)) (cD (.str " "))) (vD 6)) (consA (cD (.str "      else")) (consA (opE addO (opE addO (opE addO (cD (.str "        set ")) (vD 0)) (cD (.str " "))) (vD 4)) (consA (cD (.str "  check b 1")) nilA)))))))
    (seqS (setS 7 (opE addO (vD 7) (lstE (consA (opE addO (opE addO (opE addO (cD (.str "    copy ")) (vD 0)) (cD (.str " to "))) (vD 1)) (consA (cD (.str "  check v 1")) (consA (opE addO (opE addO (opE addO (cD (.str "    if ")) (vD 1)) (cD (.str " = "))) (vD 6)) (consA (cD (.str "      fail")) nilA)))))))
    (seqS (parS (consA (makeA "Glass" 2 m_Glass___init__ false (consA (mtE isStr joinO (cD (.str "\n")) (consA (vD 7) nilA)) nilA)) (consA (tupE (consA (cD (.str "a")) (consA (cD (.int 1)) nilA))) (consA (tupE (consA (cD (.str "b")) (consA (cD (.int 1)) nilA))) (consA (tupE (consA (cD (.str "v")) (consA (cD (.int 1)) nilA))) nilA)))) (consG (nameG 8) (consG (nameG 9) (consG (nameG 10) (consG (nameG 11) nilG)))))
    (seqS (ifS (boolD (opE neO (methA "Glass" "outcomes" 2 m_Glass_outcomes (vD 8) (consA (opE addO (opE mulT (tupE (consA (vD 9) nilA)) (vD 3)) (tupE (consA (vD 10) (consA (vD 11) nilA)))) nilA)) (opE addO (opE mulT (tupE (consA (cD (.str "pass")) nilA)) (opE addO (vD 3) (cD (.int 1)))) (tupE (consA (opE ixO (lstE (consA (cD (.str "pass")) (consA (cD (.str "pass")) (consA (cD (.str "fail")) nilA)))) (callE (oneO intAO) (consA (opE modO (vD 3) (cD (.int 3))) nilA))) nilA))))) (retS (cD (.bl false))) nextS)
    (seqS (setS 12 (methA "Glass" "start" 2 m_Glass_start (vD 8) (consA (cD (.int 1)) nilA)))
    (seqS (forS (rng1S (consA (vD 3) nilA)) (nameG 13) (seqS (setS 12 (opE ixO (methA "Glass" "after" 4 m_Glass_after (vD 8) (consA (vD 12) (consA (cD (.int 0)) (consA (vD 9) nilA)))) (cD (.int 1))))
    (ifS (boolD (opE neO (vD 12) (tupE (consA (tupE (consA (tupE (consA (cD (.str "g")) (consA (tupE (consA (opE ixO (vD 2) (callE (oneO intAO) (consA (opE modO (opE addO (vD 13) (cD (.int 1))) (cD (.int 3))) nilA))) (consA (vD 4) nilA))) nilA))) nilA)) (consA (tupE nilA) nilA))))) (retS (cD (.bl false))) nextS)))
    (retS (opE eqO (propE "Glass" m_Glass_cells (vD 8)) (tupE (consA (tupE (consA (vD 0) (consA (vD 2) (consA (cD (.bl false)) nilA)))) (consA (tupE (consA (vD 1) (consA (vD 2) (consA (cD (.bl false)) nilA)))) nilA))))))))))))))
def m_law : FD := runD false 7
    (seqS (forS (rng1S (consA (callE (twoO maxO) (consA (cD (.int 1)) (consA (callE (twoO minO) (consA (cD (.int 3)) (consA (callE (oneO lenO) (consA (vD 0) nilA)) nilA))) nilA))) nilA)) (nameG 1) (seqS (setS 2 (callF 2 m__law_jar (consA (vD 0) (consA (vD 1) nilA))))
    (seqS (asgS (callF 2 m__law_of (consA (vD 2) (consA (lstE (consA (tupE (consA (cD (.str "ca")) (consA (cD (.str "da")) nilA))) (consA (tupE (consA (cD (.str "m")) (consA (cD (.str "n")) nilA))) (consA (tupE (consA (cD (.str "n")) (consA (cD (.str "m")) nilA))) (consA (tupE (consA (cD (.str "cells")) (consA (cD (.str "sets")) nilA))) nilA))))) nilA))) (tupG 2 (consG (nameG 3) (consG (nameG 4) nilG))))
    (seqS (asgS (callF 2 m__law_of (consA (vD 2) (consA (lstE (consA (tupE (consA (cD (.str "ok")) (consA (cD (.str "bad")) nilA))) (consA (tupE (consA (cD (.str "bad")) (consA (cD (.str "ok")) nilA))) (consA (tupE (consA (cD (.str "x")) (consA (cD (.str "y")) nilA))) (consA (tupE (consA (vD 3) (consA (vD 4) nilA))) nilA))))) nilA))) (tupG 2 (consG (nameG 5) (consG (nameG 6) nilG))))
    (seqS (ifS (orT (notT (bD (callF 4 m__law_stays_right (consA (vD 3) (consA (vD 4) (consA (vD 5) (consA (vD 6) nilA))))))) (notT (bD (callF 4 m__law_opens_right (consA (vD 3) (consA (vD 4) (consA (vD 5) (consA (vD 6) nilA)))))))) (retS (cD (.bl false))) nextS)
    (ifS (notT (bD (callF 4 m__law_turns_right (consA (vD 3) (consA (vD 4) (consA (tupE (consA (vD 5) (consA (vD 6) (consA (cD (.str "zz")) nilA)))) (consA (callF 2 m__law_take (consA (vD 2) (consA (cD (.int 10)) nilA))) nilA))))))) (retS (cD (.bl false))) nextS))))))
    (retS (cD (.bl true))))
variable [HasW]
structure Fx (K : PySem.W.Frag) (mg : Str → Option Value) : Prop where
  n_len : mg "len" = none
  n_min : mg "min" = none
  n_max : mg "max" = none
  n_range : mg "range" = none
  n_abs : mg "abs" = none
  n_int : mg "int" = none
  d__law_jar : HasD K mg "_law_jar" (top 75)
  d__law_take : HasD K mg "_law_take" (top 76)
  d__law_of : HasD K mg "_law_of" (top 77)
  n_isinstance : mg "isinstance" = none
  n_str : mg "str" = none
  x_BadText : HasX PW K mg "BadText" "BadText.__init__" (inClass (top 9) 0)
  cl_Glass : Cls K (He.ga K "Glass")
  na_Glass_own_text : NoAttr K (He.ga K "Glass") "own_text"
  c_FEED : ∃ t, mg "FEED" = some (.str "\n" t)
  c_BLANK : ∃ t, mg "BLANK" = some (.str " " t)
  c_STEP : ∃ t, mg "STEP" = some (.int 2 t)
  d_split_line : HasD K mg "split_line" (top 69)
  cl_Source : Cls K (He.ga K "Source")
  na_Source_split_lines : NoAttr K (He.ga K "Source") "split_lines"
  na_Source_at : NoAttr K (He.ga K "Source") "at"
  na_Source_words_of : NoAttr K (He.ga K "Source") "words_of"
  na_Source_shared_names : NoAttr K (He.ga K "Source") "shared_names"
  na_Source_told_groups : NoAttr K (He.ga K "Source") "told_groups"
  na_Source_opens : NoAttr K (He.ga K "Source") "opens"
  na_Source_closes : NoAttr K (He.ga K "Source") "closes"
  na_Source_told_checks : NoAttr K (He.ga K "Source") "told_checks"
  d_Source___init__ : HasM K "Source" "__init__" "Source.__init__" (inClass (top 71) 0)
  mk_Source : Mk K (He.ga K "Source") (He.ma K (He.ga K "Source") "__init__")
  g_Source : mg "Source" = some (.ref (He.ga K "Source"))
  na_Glass_source : NoAttr K (He.ga K "Glass") "source"
  d_Source_is_next : HasM K "Source" "is_next" "Source.is_next" (inClass (top 71) 2)
  me_Source_is_next : Meth K (He.ga K "Source") "is_next" (He.ma K (He.ga K "Source") "is_next")
  c_SHARED : ∃ t, mg "SHARED" = some (.str "shared" t)
  c_CELL : ∃ t, mg "CELL" = some (.str "cell" t)
  d_Source_demand : HasM K "Source" "demand" "Source.demand" (inClass (top 71) 1)
  me_Source_demand : Meth K (He.ga K "Source") "demand" (He.ma K (He.ga K "Source") "demand")
  c_LEAST_CELL : ∃ t, mg "LEAST_CELL" = some (.int 4 t)
  c_MOST_CELL : ∃ t, mg "MOST_CELL" = some (.int 5 t)
  c_MOST_SIGNS : ∃ t, mg "MOST_SIGNS" = some (.int 8 t)
  c_SMALL : ∃ t, mg "SMALL" = some (.str "abcdefghijklmnopqrstuvwxyz" t)
  n_all : mg "all" = none
  d_is_name : HasD K mg "is_name" (top 15)
  t_RESERVED : (mg "RESERVED" = some (.ref (He.ga K "RESERVED"))) ∧ ∀ F, RelD K F (.tup [(.str "cell"), (.str "shared"), (.str "group"), (.str "open"), (.str "close"), (.str "check"), (.str "set"), (.str "copy"), (.str "to"), (.str "want"), (.str "fail"), (.str "if"), (.str "else")]) (.ref (He.ga K "RESERVED"))
  d_is_plain : HasD K mg "is_plain" (top 70)
  n_set : mg "set" = none
  c_MOST_CELLS : ∃ t, mg "MOST_CELLS" = some (.int 8 t)
  d_Source_take : HasM K "Source" "take" "Source.take" (inClass (top 71) 3)
  me_Source_take : Meth K (He.ga K "Source") "take" (He.ma K (He.ga K "Source") "take")
  n_tuple : mg "tuple" = none
  d_Source_read_cell : HasM K "Source" "read_cell" "Source.read_cell" (inClass (top 71) 5)
  me_Source_read_cell : Meth K (He.ga K "Source") "read_cell" (He.ma K (He.ga K "Source") "read_cell")
  c_GROUP : ∃ t, mg "GROUP" = some (.str "group" t)
  c_MOST_GROUPS_glasses : ∃ t, mg "MOST_GROUPS_glasses" = some (.int 3 t)
  c_PAIR_glasses : ∃ t, mg "PAIR_glasses" = some (.int 2 t)
  c_EDGE_DEEP : ∃ t, mg "EDGE_DEEP" = some (.int 1 t)
  t_COMMANDS : (mg "COMMANDS" = some (.ref (He.ga K "COMMANDS"))) ∧ ∀ F, RelD K F (.tup [(.str "set"), (.str "copy"), (.str "want"), (.str "fail"), (.str "if")]) (.ref (He.ga K "COMMANDS"))
  c_MOST_COMMANDS : ∃ t, mg "MOST_COMMANDS" = some (.int 10 t)
  c_IF : ∃ t, mg "IF" = some (.str "if" t)
  c_QUADRUPLE : ∃ t, mg "QUADRUPLE" = some (.int 4 t)
  c_IS : ∃ t, mg "IS" = some (.str "=" t)
  d_Source_has_cell : HasM K "Source" "has_cell" "Source.has_cell" (inClass (top 71) 10)
  me_Source_has_cell : Meth K (He.ga K "Source") "has_cell" (He.ma K (He.ga K "Source") "has_cell")
  c_ELSE : ∃ t, mg "ELSE" = some (.str "else" t)
  d_Source_read_if : HasM K "Source" "read_if" "Source.read_if" (inClass (top 71) 12)
  me_Source_read_if : Meth K (He.ga K "Source") "read_if" (He.ma K (He.ga K "Source") "read_if")
  c_COPY : ∃ t, mg "COPY" = some (.str "copy" t)
  c_TO : ∃ t, mg "TO" = some (.str "to" t)
  c_FAIL : ∃ t, mg "FAIL" = some (.str "fail" t)
  c_SET : ∃ t, mg "SET" = some (.str "set" t)
  c_TRIPLE : ∃ t, mg "TRIPLE" = some (.int 3 t)
  d_Source_read_command : HasM K "Source" "read_command" "Source.read_command" (inClass (top 71) 11)
  me_Source_read_command : Meth K (He.ga K "Source") "read_command" (He.ma K (He.ga K "Source") "read_command")
  d_Source_read_block : HasM K "Source" "read_block" "Source.read_block" (inClass (top 71) 9)
  me_Source_read_block : Meth K (He.ga K "Source") "read_block" (He.ma K (He.ga K "Source") "read_block")
  c_MOST_IFS : ∃ t, mg "MOST_IFS" = some (.int 2 t)
  c_CLOSE : ∃ t, mg "CLOSE" = some (.str "close" t)
  c_COMMAND_DEEP : ∃ t, mg "COMMAND_DEEP" = some (.int 2 t)
  d_Source_read_edge : HasM K "Source" "read_edge" "Source.read_edge" (inClass (top 71) 7)
  me_Source_read_edge : Meth K (He.ga K "Source") "read_edge" (He.ma K (He.ga K "Source") "read_edge")
  c_OPEN : ∃ t, mg "OPEN" = some (.str "open" t)
  c_CHECK : ∃ t, mg "CHECK" = some (.str "check" t)
  c_MOST_CHECKS_glasses : ∃ t, mg "MOST_CHECKS_glasses" = some (.int 8 t)
  t_EDITIONS : (mg "EDITIONS" = some (.ref (He.ga K "EDITIONS"))) ∧ ∀ F, RelD K F (.tup [(.str "1"), (.str "2"), (.str "3"), (.str "4"), (.str "5"), (.str "6"), (.str "7"), (.str "8"), (.str "9")]) (.ref (He.ga K "EDITIONS"))
  c_MOST_ITEMS : ∃ t, mg "MOST_ITEMS" = some (.int 5 t)
  d_Source_read_check : HasM K "Source" "read_check" "Source.read_check" (inClass (top 71) 8)
  me_Source_read_check : Meth K (He.ga K "Source") "read_check" (He.ma K (He.ga K "Source") "read_check")
  n_sorted : mg "sorted" = none
  d_Source_read_group : HasM K "Source" "read_group" "Source.read_group" (inClass (top 71) 6)
  me_Source_read_group : Meth K (He.ga K "Source") "read_group" (He.ma K (He.ga K "Source") "read_group")
  d_Source_read_all : HasM K "Source" "read_all" "Source.read_all" (inClass (top 71) 4)
  me_Source_read_all : Meth K (He.ga K "Source") "read_all" (He.ma K (He.ga K "Source") "read_all")
  d_is_tuple : HasD K mg "is_tuple" (top 17)
  c_MOST_GROUPS_shops : ∃ t, mg "MOST_GROUPS_shops" = some (.int 3 t)
  c_PAIR_shops : ∃ t, mg "PAIR_shops" = some (.int 2 t)
  n_zip : mg "zip" = none
  d_is_ascending : HasD K mg "is_ascending" (top 18)
  d_are_names : HasD K mg "are_names" (top 20)
  c_MOST_IN_A_GROUP : ∃ t, mg "MOST_IN_A_GROUP" = some (.int 4 t)
  d_is_group : HasD K mg "is_group" (top 27)
  c_MOST_CHECKS_shops : ∃ t, mg "MOST_CHECKS_shops" = some (.int 5 t)
  n_enumerate : mg "enumerate" = none
  d_are_different : HasD K mg "are_different" (top 19)
  d_are_groups : HasD K mg "are_groups" (top 28)
  x_BadShop : HasX PW K mg "BadShop" "BadShop.__init__" (inClass (top 3) 0)
  cl_Shop : Cls K (He.ga K "Shop")
  na_Shop_own_groups : NoAttr K (He.ga K "Shop") "own_groups"
  na_Shop_group_by_check : NoAttr K (He.ga K "Shop") "group_by_check"
  d_Shop___init__ : HasM K "Shop" "__init__" "Shop.__init__" (inClass (top 29) 0)
  mk_Shop : Mk K (He.ga K "Shop") (He.ma K (He.ga K "Shop") "__init__")
  g_Shop : mg "Shop" = some (.ref (He.ga K "Shop"))
  na_Glass_own_shop : NoAttr K (He.ga K "Glass") "own_shop"
  d_Glass___init__ : HasM K "Glass" "__init__" "Glass.__init__" (inClass (top 73) 0)
  mk_Glass : Mk K (He.ga K "Glass") (He.ma K (He.ga K "Glass") "__init__")
  g_Glass : mg "Glass" = some (.ref (He.ga K "Glass"))
  c_MOST_RUNS : ∃ t, mg "MOST_RUNS" = some (.int 12 t)
  n_bool : mg "bool" = none
  d_is_integer : HasD K mg "is_integer" (top 13)
  d_Glass_is_item : HasM K "Glass" "is_item" "Glass.is_item" (inClass (top 73) 11)
  me_Glass_is_item : Meth K (He.ga K "Glass") "is_item" (He.ma K (He.ga K "Glass") "is_item")
  x_BadOrder : HasX PW K mg "BadOrder" "BadOrder.__init__" (inClass (top 8) 0)
  d_is_between : HasD K mg "is_between" (top 14)
  c_MOST_WORKERS : ∃ t, mg "MOST_WORKERS" = some (.int 3 t)
  x_BadMany : HasX PW K mg "BadMany" "BadMany.__init__" (inClass (top 5) 0)
  d_Glass_cells : HasP K "Glass" "cells" "Glass.cells" (inClass (top 73) 6)
  pr_Glass_cells : PropOf K (He.ga K "Glass") "cells" (He.ma K (He.ga K "Glass") "cells") (pga K (He.ga K "Glass") "cells")
  d_Glass_names_of : HasM K "Glass" "names_of" "Glass.names_of" (inClass (top 73) 7)
  me_Glass_names_of : Meth K (He.ga K "Glass") "names_of" (He.ma K (He.ga K "Glass") "names_of")
  d_Glass_first_words : HasM K "Glass" "first_words" "Glass.first_words" (inClass (top 73) 8)
  me_Glass_first_words : Meth K (He.ga K "Glass") "first_words" (He.ma K (He.ga K "Glass") "first_words")
  c_NO_GROUP : ∃ t, mg "NO_GROUP" = some (.str "" t)
  d_Glass_start : HasM K "Glass" "start" "Glass.start" (inClass (top 73) 9)
  me_Glass_start : Meth K (He.ga K "Glass") "start" (He.ma K (He.ga K "Glass") "start")
  x_NoWorker : HasX PW K mg "NoWorker" "NoWorker.__init__" (inClass (top 6) 0)
  d_Glass_check_worker : HasM K "Glass" "check_worker" "Glass.check_worker" (inClass (top 73) 10)
  me_Glass_check_worker : Meth K (He.ga K "Glass") "check_worker" (He.ma K (He.ga K "Glass") "check_worker")
  x_NoItem : HasX PW K mg "NoItem" "NoItem.__init__" (inClass (top 7) 0)
  n_dict : mg "dict" = none
  d_is_word : HasD K mg "is_word" (top 16)
  x_NoCheck : HasX PW K mg "NoCheck" "NoCheck.__init__" (inClass (top 4) 0)
  d_Shop_group_of : HasM K "Shop" "group_of" "Shop.group_of" (inClass (top 29) 4)
  me_Shop_group_of : Meth K (He.ga K "Shop") "group_of" (He.ma K (He.ga K "Shop") "group_of")
  d_fails : HasD K mg "fails" (top 72)
  c_SKIP : ∃ t, mg "SKIP" = some (.str "skip" t)
  c_PASS : ∃ t, mg "PASS" = some (.str "pass" t)
  d_Glass_run_on : HasM K "Glass" "run_on" "Glass.run_on" (inClass (top 73) 13)
  me_Glass_run_on : Meth K (He.ga K "Glass") "run_on" (He.ma K (He.ga K "Glass") "run_on")
  d_Glass_after : HasM K "Glass" "after" "Glass.after" (inClass (top 73) 12)
  me_Glass_after : Meth K (He.ga K "Glass") "after" (He.ma K (He.ga K "Glass") "after")
  d_Glass_outcomes : HasM K "Glass" "outcomes" "Glass.outcomes" (inClass (top 73) 16)
  me_Glass_outcomes : Meth K (He.ga K "Glass") "outcomes" (He.ma K (He.ga K "Glass") "outcomes")
  d_Glass_freshened : HasM K "Glass" "freshened" "Glass.freshened" (inClass (top 73) 14)
  me_Glass_freshened : Meth K (He.ga K "Glass") "freshened" (He.ma K (He.ga K "Glass") "freshened")
  d_Glass_cleared : HasM K "Glass" "cleared" "Glass.cleared" (inClass (top 73) 15)
  me_Glass_cleared : Meth K (He.ga K "Glass") "cleared" (He.ma K (He.ga K "Glass") "cleared")
  d__law_stays_right : HasD K mg "_law_stays_right" (top 78)
  d__law_opens_right : HasD K mg "_law_opens_right" (top 79)
  d__law_turns_right : HasD K mg "_law_turns_right" (top 80)
  d_law : HasD K mg "law" (top 81)
section
variable {K : PySem.W.Frag} {mg : Str → Option Value} {base : Heap}
theorem nd__law_jar : (["_law_script", "_law_k", "_law_cell", "_law_mine", "_law_mixed"] : List Str).Nodup := by decide +kernel
theorem ok__law_jar (h : Fx K mg) : OkD PW HasW.w K mg base 1 "_law_jar" 2 m__law_jar := OkD.of (N := ["_law_script", "_law_k", "_law_cell", "_law_mine", "_law_mixed"]) (ps := ["_law_script", "_law_k"]) (k := 0) h.d__law_jar ⟨rfl, rfl, rfl, nd__law_jar, rfl, by decide +kernel, by decide +kernel⟩
  (fun _ _ _ _ _ _ us hl => match us, hl with | [_, _], _ => rfl) fun fd cdv A outer s H E hr =>
  (qs_cons (q_set (i := 2) nd__law_jar rfl (Or.inl rfl) (q_if (qt_cmp (ol_lt (hu64 hr)) (qv 1) (q_callB cl_len rfl h.n_len bt_len (qa_cons (qv 0) qa_nil))) (q_ix (il_ix (hu1 hr)) (qv 0) (qv 1)) (q_op ol_add (q_op ol_mul q_int (qv 1)) q_int)))
    (qs_cons (q_set (i := 3) nd__law_jar rfl (Or.inl rfl) (q_op ol_mul (q_op ol_mod (q_callTy cl_intA rfl h.n_int PyProof.Rows.boot_int (qa_cons (q_callB cl_abs rfl h.n_abs PyProof.Rows.boot_abs (qa_cons (qv 2) qa_nil)) qa_nil)) (q_op ol_pow (q_op ol_pow q_int q_int) q_int)) (q_callTy cl_intA rfl h.n_int PyProof.Rows.boot_int (qa_cons (q_cmp ol_ge (q_callB cl_abs rfl h.n_abs PyProof.Rows.boot_abs (qa_cons (qv 2) qa_nil)) (q_op ol_pow q_int q_int)) qa_nil))))
    (qs_cons (q_set (i := 4) nd__law_jar rfl (Or.inl rfl) (q_callTy cl_intA rfl h.n_int PyProof.Rows.boot_int (qa_cons (q_op ol_add (q_op ol_add (q_op ol_mul (q_op ol_mod (q_callTy cl_intA rfl h.n_int PyProof.Rows.boot_int (qa_cons (qv 2) qa_nil)) q_int) q_int) (q_op ol_mul (q_op ol_mul q_int (qv 1)) (qv 1))) q_int) qa_nil)))
    (qs_one (q_ret (q_lstC (qa_cons (qv 3) (qa_cons (q_op ol_mod (qv 4) q_int) (qa_cons q_int qa_nil)))))))))
theorem nd__law_take : (["_law_jar_here", "_law_upto", "_law_digit", "_law_prime", "_law_made"] : List Str).Nodup := by decide +kernel
theorem ok__law_take (h : Fx K mg) : OkD PW HasW.w K mg base 1 "_law_take" 2 m__law_take := OkD.of (N := ["_law_jar_here", "_law_upto", "_law_digit", "_law_prime", "_law_made"]) (ps := ["_law_jar_here", "_law_upto"]) (k := 0) h.d__law_take ⟨rfl, rfl, rfl, nd__law_take, rfl, by decide +kernel, by decide +kernel⟩
  (fun _ _ _ _ _ _ us hl => match us, hl with | [_, _], _ => rfl) fun fd cdv A outer s H E hr =>
  (qs_cons (q_ifS (qt_cmp ol_gt (q_ix (il_ix (hu1 hr)) (qv 0) q_int) q_int) (qs_cons (q_set (i := 2) nd__law_take rfl (Or.inl rfl) (q_op ol_mod (q_callTy cl_intA rfl h.n_int PyProof.Rows.boot_int (qa_cons (q_ix (il_ix (hu1 hr)) (qv 0) q_int) qa_nil)) (qv 1)))
    (qs_cons (q_put (hu1 hr) (qv 0) q_int (q_op ol_fdiv (q_ix (il_ix (hu1 hr)) (qv 0) q_int) (qv 1)))
    (qs_one (q_ret (qv 2))))) qs_nil)
    (qs_cons (q_put (hu1 hr) (qv 0) q_int (q_op ol_add (q_ix (il_ix (hu1 hr)) (qv 0) q_int) q_int))
    (qs_cons (q_set (i := 3) nd__law_take rfl (Or.inl rfl) (q_ix (il_ix (hu1 hr)) (q_lst (qa_cons q_int (qa_cons q_int (qa_cons q_int (qa_cons q_int (qa_cons q_int qa_nil)))))) (q_op ol_mod (q_callTy cl_intA rfl h.n_int PyProof.Rows.boot_int (qa_cons (q_ix (il_ix (hu1 hr)) (qv 0) q_int) qa_nil)) q_int)))
    (qs_cons (q_set (i := 4) nd__law_take rfl (Or.inl rfl) (q_op ol_mod (q_callTy cl_intA rfl h.n_int PyProof.Rows.boot_int (qa_cons (q_op ol_pow (q_op ol_add (q_op ol_add (q_ix (il_ix (hu1 hr)) (qv 0) q_int) (q_op ol_mul (q_op ol_mul q_int (q_ix (il_ix (hu1 hr)) (qv 0) q_int)) (q_ix (il_ix (hu1 hr)) (qv 0) q_int))) q_int) q_int) qa_nil)) (qv 3)))
    (qs_cons (q_set (i := 4) nd__law_take rfl (Or.inl rfl) (q_op ol_mod (q_callTy cl_intA rfl h.n_int PyProof.Rows.boot_int (qa_cons (q_op ol_mul (qv 4) (q_op ol_add (q_op ol_mod (q_callTy cl_intA rfl h.n_int PyProof.Rows.boot_int (qa_cons (qv 4) qa_nil)) q_int) (q_op ol_mul q_int (q_ix (il_ix (hu1 hr)) (qv 0) q_int)))) qa_nil)) q_int))
    (qs_one (q_ret (q_op ol_mod (q_callTy cl_intA rfl h.n_int PyProof.Rows.boot_int (qa_cons (q_op ol_fdiv (qv 4) q_int) qa_nil)) (qv 1)))))))))
theorem nd__law_of : (["_law_jar_here", "_law_some"] : List Str).Nodup := by decide +kernel
theorem ok__law_of (h : Fx K mg) : OkD PW HasW.w K mg base 2 "_law_of" 2 m__law_of := OkD.of (N := ["_law_jar_here", "_law_some"]) (ps := ["_law_jar_here", "_law_some"]) (k := 1) h.d__law_of ⟨rfl, rfl, rfl, nd__law_of, rfl, by decide +kernel, by decide +kernel⟩
  (fun _ _ _ _ _ _ us hl => match us, hl with | [_, _], _ => rfl) fun fd cdv A outer s H E hr =>
  (qs_one (q_ret (q_ix (il_ix (hu1 hr)) (qv 1) (q_callD (ok__law_take h) hr (by decide) rfl (takes_of rfl rfl rfl rfl) (qa_cons (qv 0) (qa_cons (q_callB cl_len rfl h.n_len bt_len (qa_cons (qv 1) qa_nil)) qa_nil))))))
theorem okx_BadText (h : Fx K mg) : OkX PW HasW.w K mg base 1 "BadText" := OkX.of (par := "line") h.x_BadText rfl rfl rfl rfl rfl rfl rfl (by decide) (by decide) rfl rfl rfl (by decide +kernel) (fun _ _ _ => ⟨_, rfl⟩) (fun _ _ _ _ _ _ _ us hl => match us, hl with | [_, _], _ => rfl)
theorem nd_split_line : (["line", "rest", "blanks", "words"] : List Str).Nodup := by decide +kernel
theorem ok_split_line (h : Fx K mg) : OkD PW HasW.w K mg base 1 "split_line" 1 m_split_line := OkD.of (N := ["line", "rest", "blanks", "words"]) (ps := ["line"]) (k := 0) h.d_split_line ⟨rfl, rfl, rfl, nd_split_line, rfl, by decide +kernel, by decide +kernel⟩
  (fun _ _ _ _ _ _ us hl => match us, hl with | [_], _ => rfl) fun fd cdv A outer s H E hr =>
  (qs_cons (q_set (i := 1) nd_split_line rfl (Or.inl rfl) (q_bm tyk_str PySem.F.plainAttrs_str PySem.F.slot_str_lstrip PySem.F.type_str_lstrip ml_lstrip (qv 0) (qa_cons (q_gstr rfl h.c_BLANK) qa_nil)))
    (qs_cons (q_par2 (i := 2) (j := 3) rfl nd_split_line rfl rfl (by decide) rfl rfl (qa_cons (q_op ol_sub (q_callB cl_len rfl h.n_len bt_len (qa_cons (qv 0) qa_nil)) (q_callB cl_len rfl h.n_len bt_len (qa_cons (qv 1) qa_nil))) (qa_cons (q_bm tyk_str PySem.F.plainAttrs_str PySem.F.slot_str_split PySem.F.type_str_split ml_split (qv 1) (qa_cons (q_gstr rfl h.c_BLANK) qa_nil)) qa_nil)))
    (qs_one (q_ret (q_if (qt_w (qw_or (qt_cmp (ol_ne (hu64 hr)) (q_op ol_mod (qv 2) (q_gint rfl h.c_STEP)) q_int) (qw_or1 (qt_cmp (ol_in (hu65 hr)) q_str (qv 3))))) (q_tup (qa_cons (q_un ul_neg q_int) (qa_cons (q_lst (qa_cons q_str qa_nil)) qa_nil))) (q_tup (qa_cons (q_op ol_fdiv (qv 2) (q_gint rfl h.c_STEP)) (qa_cons (qv 3) qa_nil))))))))
theorem nd_Source___init__ : (["self", "text", "line"] : List Str).Nodup := by decide +kernel
theorem ok_Source___init__ (h : Fx K mg) : OkM PW HasW.w K mg base 2 "Source" "__init__" 2 m_Source___init__ := OkM.keep (N := ["self", "text", "line"]) (ps := ["self", "text"]) (k := 1) h.d_Source___init__ ⟨rfl, rfl, rfl, nd_Source___init__, rfl, by decide +kernel, by decide +kernel⟩
  (fun _ _ _ _ _ _ us hl => match us, hl with | [_, _], _ => rfl) fun fd cdv A outer s H E hr =>
  (qs_cons (q_setFld h.cl_Source h.na_Source_split_lines (qv 0) (q_lc (own := [("line", 2)]) lstF_ends (by decide) rfl nd_Source___init__ (qi_val (q_bm tyk_str PySem.F.plainAttrs_str PySem.F.slot_str_split PySem.F.type_str_split ml_split (qv 1) (qa_cons (q_gstr rfl h.c_FEED) qa_nil))) (blkOk_by (by kernel_rfl)) (fun _ _ _ _ _ => (qg_name (i := 2) nd_Source___init__ rfl (Or.inl rfl))) (fun _ _ _ _ _ => qts_nil) (fun _ _ _ _ _ => (q_callD (ok_split_line h) hr (by decide) rfl takesNo (qa_cons (qv 2) qa_nil)))))
    (qs_cons (q_setFld h.cl_Source h.na_Source_at (qv 0) q_int)
    (qs_cons (q_setFld h.cl_Source h.na_Source_words_of (qv 0) q_dnewC)
    (qs_cons (q_setFld h.cl_Source h.na_Source_shared_names (qv 0) (q_lstC qa_nil))
    (qs_cons (q_setFld h.cl_Source h.na_Source_told_groups (qv 0) (q_lstC qa_nil))
    (qs_cons (q_setFld h.cl_Source h.na_Source_opens (qv 0) q_dnewC)
    (qs_cons (q_setFld h.cl_Source h.na_Source_closes (qv 0) q_dnewC)
    (qs_one (q_setFld h.cl_Source h.na_Source_told_checks (qv 0) (q_dnewN rfl))))))))))
theorem nd_Source_is_next : (["self", "deep", "words", "is_deep", "found"] : List Str).Nodup := by decide +kernel
theorem ok_Source_is_next (h : Fx K mg) : OkM PW HasW.w K mg base 1 "Source" "is_next" 3 m_Source_is_next := OkM.keep (N := ["self", "deep", "words", "is_deep", "found"]) (ps := ["self", "deep", "words"]) (k := 0) h.d_Source_is_next ⟨rfl, rfl, rfl, nd_Source_is_next, rfl, by decide +kernel, by decide +kernel⟩
  (fun _ _ _ _ _ _ us hl => match us, hl with | [_, _, _], _ => rfl) fun fd cdv A outer s H E hr =>
  (qs_cons (q_ifS (qt_cmp (ol_eq (hu64 hr)) (q_fld (allc (P := fun c => Cls _ (He.ga _ c) ∧ NoAttr _ (He.ga _ c) _) ⟨h.cl_Source, h.na_Source_at⟩ (alln)) (qv 0)) (q_callB cl_len rfl h.n_len bt_len (qa_cons (q_fld (allc (P := fun c => Cls _ (He.ga _ c) ∧ NoAttr _ (He.ga _ c) _) ⟨h.cl_Source, h.na_Source_split_lines⟩ (alln)) (qv 0)) qa_nil))) (qs_one (q_ret q_bl)) qs_nil)
    (qs_cons (q_par2 (i := 3) (j := 4) rfl nd_Source_is_next rfl rfl (by decide) rfl rfl (qa_cons (q_cmp (ol_eq (hu64 hr)) (q_ix (il_ix (hu1 hr)) (q_ix (il_ix (hu1 hr)) (q_fld (allc (P := fun c => Cls _ (He.ga _ c) ∧ NoAttr _ (He.ga _ c) _) ⟨h.cl_Source, h.na_Source_split_lines⟩ (alln)) (qv 0)) (q_fld (allc (P := fun c => Cls _ (He.ga _ c) ∧ NoAttr _ (He.ga _ c) _) ⟨h.cl_Source, h.na_Source_at⟩ (alln)) (qv 0))) q_int) (qv 1)) (qa_cons (q_ix (il_ix (hu1 hr)) (q_ix (il_ix (hu1 hr)) (q_fld (allc (P := fun c => Cls _ (He.ga _ c) ∧ NoAttr _ (He.ga _ c) _) ⟨h.cl_Source, h.na_Source_split_lines⟩ (alln)) (qv 0)) (q_fld (allc (P := fun c => Cls _ (He.ga _ c) ∧ NoAttr _ (He.ga _ c) _) ⟨h.cl_Source, h.na_Source_at⟩ (alln)) (qv 0))) q_int) qa_nil)))
    (qs_one (q_ret (q_and (qv 3) (q_one (q_cmp (ol_in (hu65 hr)) (q_ix (il_ix (hu1 hr)) (qv 4) q_int) (qv 2))))))))
theorem nd_Source_demand : (["self", "is_right"] : List Str).Nodup := by decide +kernel
theorem ok_Source_demand (h : Fx K mg) : OkM PW HasW.w K mg base 3 "Source" "demand" 2 m_Source_demand := OkM.keep (N := ["self", "is_right"]) (ps := ["self", "is_right"]) (k := 2) h.d_Source_demand ⟨rfl, rfl, rfl, nd_Source_demand, rfl, by decide +kernel, by decide +kernel⟩
  (fun _ _ _ _ _ _ us hl => match us, hl with | [_, _], _ => rfl) fun fd cdv A outer s H E hr =>
  (qs_one (q_ifS (qt_not (qt_true (qv 1))) (qs_one (q_raiseX (okx_BadText h) rfl (takes_of rfl rfl rfl rfl) hr (by decide) rfl (qa_cons (q_fld (allc (P := fun c => Cls _ (He.ga _ c) ∧ NoAttr _ (He.ga _ c) _) ⟨h.cl_Source, h.na_Source_at⟩ (alln)) (qv 0)) qa_nil))) qs_nil))
theorem nd_is_name : (["value", "sign"] : List Str).Nodup := by decide +kernel
theorem ok_is_name (h : Fx K mg) : OkD PW HasW.w K mg base 1 "is_name" 1 m_is_name := OkD.of (N := ["value", "sign"]) (ps := ["value"]) (k := 0) h.d_is_name ⟨rfl, rfl, rfl, nd_is_name, rfl, by decide +kernel, by decide +kernel⟩
  (fun _ _ _ _ _ _ us hl => match us, hl with | [_], _ => rfl) fun fd cdv A outer s H E hr =>
  (qs_one (q_ret (q_and (q_isi rfl h.n_isinstance (qv 0) (pe_bltn (v := .ty _) rfl h.n_str PyProof.Rows.boot_str rfl) (.ty _) isT_str) (q_and (q_chain ol_le ol_le q_int (q_callB cl_len rfl h.n_len bt_len (qa_cons (qv 0) qa_nil)) (q_gint rfl h.c_MOST_SIGNS)) (q_one (q_callB (cl_all rfl) rfl h.n_all PyProof.Rows.boot_all (qa_cons (q_lc (own := [("sign", 1)]) lstF_ends (by decide) rfl nd_is_name (qi_val (qv 0)) (blkOk_by (by kernel_rfl)) (fun _ _ _ _ _ => (qg_name (i := 1) nd_is_name rfl (Or.inl rfl))) (fun _ _ _ _ _ => qts_nil) (fun _ _ _ _ _ => (q_cmp (ol_in (hu65 hr)) (qv 1) (q_gstr rfl h.c_SMALL)))) qa_nil)))))))
theorem nd_is_plain : (["word"] : List Str).Nodup := by decide +kernel
theorem ok_is_plain (h : Fx K mg) : OkD PW HasW.w K mg base 2 "is_plain" 1 m_is_plain := OkD.of (N := ["word"]) (ps := ["word"]) (k := 1) h.d_is_plain ⟨rfl, rfl, rfl, nd_is_plain, rfl, by decide +kernel, by decide +kernel⟩
  (fun _ _ _ _ _ _ us hl => match us, hl with | [_], _ => rfl) fun fd cdv A outer s H E hr =>
  (qs_one (q_ret (q_and (q_callD (ok_is_name h) hr (by decide) rfl (takes_of rfl rfl rfl rfl) (qa_cons (qv 0) qa_nil)) (q_one (q_cmp (ol_notIn (hu65 hr)) (qv 0) (q_gtup rfl h.t_RESERVED.1 h.t_RESERVED.2))))))
theorem nd_Source_take : (["self", "words"] : List Str).Nodup := by decide +kernel
theorem ok_Source_take (h : Fx K mg) : OkM PW HasW.w K mg base 1 "Source" "take" 1 m_Source_take := OkM.keep (N := ["self", "words"]) (ps := ["self"]) (k := 0) h.d_Source_take ⟨rfl, rfl, rfl, nd_Source_take, rfl, by decide +kernel, by decide +kernel⟩
  (fun _ _ _ _ _ _ us hl => match us, hl with | [_], _ => rfl) fun fd cdv A outer s H E hr =>
  (qs_cons (q_set (i := 1) nd_Source_take rfl (Or.inl rfl) (q_ix (il_ix (hu1 hr)) (q_ix (il_ix (hu1 hr)) (q_fld (allc (P := fun c => Cls _ (He.ga _ c) ∧ NoAttr _ (He.ga _ c) _) ⟨h.cl_Source, h.na_Source_split_lines⟩ (alln)) (qv 0)) (q_fld (allc (P := fun c => Cls _ (He.ga _ c) ∧ NoAttr _ (He.ga _ c) _) ⟨h.cl_Source, h.na_Source_at⟩ (alln)) (qv 0))) q_int))
    (qs_cons (q_augF (allc (P := fun c => Cls _ (He.ga _ c) ∧ NoAttr _ (He.ga _ c) _) ⟨h.cl_Source, h.na_Source_at⟩ alln) (qv 0) q_int)
    (qs_one (q_ret (qv 1)))))
theorem nd_Source_read_cell : (["self", "word", "names", "name", "words"] : List Str).Nodup := by decide +kernel
theorem ok_Source_read_cell (h : Fx K mg) : OkM PW HasW.w K mg base 4 "Source" "read_cell" 1 m_Source_read_cell := OkM.keep (N := ["self", "word", "names", "name", "words"]) (ps := ["self"]) (k := 3) h.d_Source_read_cell ⟨rfl, rfl, rfl, nd_Source_read_cell, rfl, by decide +kernel, by decide +kernel⟩
  (fun _ _ _ _ _ _ us hl => match us, hl with | [_], _ => rfl) fun fd cdv A outer s H E hr =>
  (qs_cons (q_star rfl nd_Source_read_cell (i := 1) (j := 2) rfl rfl rfl rfl (q_ix (il_ix (hu1 hr)) (q_ix (il_ix (hu1 hr)) (q_fld (allc (P := fun c => Cls _ (He.ga _ c) ∧ NoAttr _ (He.ga _ c) _) ⟨h.cl_Source, h.na_Source_split_lines⟩ (alln)) (qv 0)) (q_fld (allc (P := fun c => Cls _ (He.ga _ c) ∧ NoAttr _ (He.ga _ c) _) ⟨h.cl_Source, h.na_Source_at⟩ (alln)) (qv 0))) q_int))
    (qs_cons (q_drop (q_methA (ok_Source_demand h) h.cl_Source h.me_Source_demand hr (by decide) (takes_of rfl rfl rfl rfl) (qv 0) (qa_cons (q_and (q_chain ol_le ol_le (q_gint rfl h.c_LEAST_CELL) (q_op ol_add (q_callB cl_len rfl h.n_len bt_len (qa_cons (qv 2) qa_nil)) q_int) (q_gint rfl h.c_MOST_CELL)) (q_one (q_callB (cl_all rfl) rfl h.n_all PyProof.Rows.boot_all (qa_cons (q_lc (own := [("name", 3)]) lstF_ends (by decide) rfl nd_Source_read_cell (qi_val (qv 2)) (blkOk_by (by kernel_rfl)) (fun _ _ _ _ _ => (qg_name (i := 3) nd_Source_read_cell rfl (Or.inl rfl))) (fun _ _ _ _ _ => qts_nil) (fun _ _ _ _ _ => (q_callD (ok_is_plain h) hr (by decide) rfl takesNo (qa_cons (qv 3) qa_nil)))) qa_nil)))) qa_nil)))
    (qs_cons (q_par2 (i := 3) (j := 4) rfl nd_Source_read_cell rfl rfl (by decide) rfl rfl (qa_cons (q_ix (il_ix (hu1 hr)) (qv 2) q_int) (qa_cons (q_slice (qv 2) (qp_some q_int) qp_none) qa_nil)))
    (qs_cons (q_drop (q_methA (ok_Source_demand h) h.cl_Source h.me_Source_demand hr (by decide) (takes_of rfl rfl rfl rfl) (qv 0) (qa_cons (q_and (q_cmp (ol_notIn (hu65 hr)) (qv 3) (q_fld (allc (P := fun c => Cls _ (He.ga _ c) ∧ NoAttr _ (He.ga _ c) _) ⟨h.cl_Source, h.na_Source_words_of⟩ (alln)) (qv 0))) (q_and (q_cmp (ol_eq (hu64 hr)) (q_lenSet rfl rfl h.n_len rfl h.n_set (hu64 hr) (qv 4)) (q_callB cl_len rfl h.n_len bt_len (qa_cons (qv 4) qa_nil))) (q_one (q_cmp (ol_lt (hu64 hr)) (q_callB cl_len rfl h.n_len bt_len (qa_cons (q_fld (allc (P := fun c => Cls _ (He.ga _ c) ∧ NoAttr _ (He.ga _ c) _) ⟨h.cl_Source, h.na_Source_words_of⟩ (alln)) (qv 0)) qa_nil)) (q_gint rfl h.c_MOST_CELLS))))) qa_nil)))
    (qs_cons (q_drop (q_methA0 (ok_Source_take h) h.cl_Source h.me_Source_take hr (by decide) (takes_of rfl rfl rfl rfl) (qv 0)))
    (qs_cons (q_put (hu1 hr) (q_fld (allc (P := fun c => Cls _ (He.ga _ c) ∧ NoAttr _ (He.ga _ c) _) ⟨h.cl_Source, h.na_Source_words_of⟩ (alln)) (qv 0)) (qv 3) (q_callTy (cl_tupleA rfl) rfl h.n_tuple PyProof.Rows.boot_tuple (qa_cons (qv 4) qa_nil)))
    (qs_one (q_ifS (qt_cmp (ol_eq (hu64 hr)) (qv 1) (q_gstr rfl h.c_SHARED)) (qs_one (q_drop (q_bm tyk_list PySem.F.plainAttrs_list PySem.F.slot_list_append PySem.F.type_list_append ml_append (q_fld (allc (P := fun c => Cls _ (He.ga _ c) ∧ NoAttr _ (He.ga _ c) _) ⟨h.cl_Source, h.na_Source_shared_names⟩ (alln)) (qv 0)) (qa_cons (qv 3) qa_nil)))) qs_nil))))))))
theorem nd_Source_has_cell : (["self", "name", "word"] : List Str).Nodup := by decide +kernel
theorem ok_Source_has_cell (h : Fx K mg) : OkM PW HasW.w K mg base 1 "Source" "has_cell" 3 m_Source_has_cell := OkM.keep (N := ["self", "name", "word"]) (ps := ["self", "name", "word"]) (k := 0) h.d_Source_has_cell ⟨rfl, rfl, rfl, nd_Source_has_cell, rfl, by decide +kernel, by decide +kernel⟩
  (fun _ _ _ _ _ _ us hl => match us, hl with | [_, _, _], _ => rfl) fun fd cdv A outer s H E hr =>
  (qs_one (q_ret (q_and (q_cmp (ol_in (hu65 hr)) (qv 1) (q_fld (allc (P := fun c => Cls _ (He.ga _ c) ∧ NoAttr _ (He.ga _ c) _) ⟨h.cl_Source, h.na_Source_words_of⟩ (alln)) (qv 0))) (q_one (q_cmp (ol_in (hu65 hr)) (qv 2) (q_ix (il_ix (hu1 hr)) (q_fld (allc (P := fun c => Cls _ (He.ga _ c) ∧ NoAttr _ (He.ga _ c) _) ⟨h.cl_Source, h.na_Source_words_of⟩ (alln)) (qv 0)) (qv 1)))))))
theorem nd_Source_read_if_1 : (["self", "deep", "can_fail", "ifs", "words", "yes", "no"] : List Str).Nodup := by decide +kernel
theorem ok_Source_read_if_1 (h : Fx K mg) : OkM PW HasW.w K mg base 4 "Source" "read_if" 4 m_Source_read_if_1 := OkM.keep (N := ["self", "deep", "can_fail", "ifs", "words", "yes", "no"]) (ps := ["self", "deep", "can_fail", "ifs"]) (k := 3) h.d_Source_read_if ⟨rfl, rfl, rfl, nd_Source_read_if_1, rfl, by decide +kernel, by decide +kernel⟩
  (fun _ _ _ _ _ _ us hl => match us, hl with | [_, _, _, _], _ => rfl) fun fd cdv A outer s H E hr =>
  (qs_cons (q_set (i := 4) nd_Source_read_if_1 rfl (Or.inl rfl) (q_ix (il_ix (hu1 hr)) (q_ix (il_ix (hu1 hr)) (q_fld (allc (P := fun c => Cls _ (He.ga _ c) ∧ NoAttr _ (He.ga _ c) _) ⟨h.cl_Source, h.na_Source_split_lines⟩ (alln)) (qv 0)) (q_fld (allc (P := fun c => Cls _ (He.ga _ c) ∧ NoAttr _ (He.ga _ c) _) ⟨h.cl_Source, h.na_Source_at⟩ (alln)) (qv 0))) q_int))
    (qs_cons (q_drop (q_methA (ok_Source_demand h) h.cl_Source h.me_Source_demand hr (by decide) (takes_of rfl rfl rfl rfl) (qv 0) (qa_cons (q_and (q_cmp ol_gt (qv 3) q_int) (q_and (q_cmp (ol_eq (hu64 hr)) (q_callB cl_len rfl h.n_len bt_len (qa_cons (qv 4) qa_nil)) (q_gint rfl h.c_QUADRUPLE)) (q_and (q_cmp (ol_eq (hu64 hr)) (q_ix (il_ix (hu1 hr)) (qv 4) q_int) (q_gstr rfl h.c_IS)) (q_one (q_methA (ok_Source_has_cell h) h.cl_Source h.me_Source_has_cell hr (by decide) (takes_of rfl rfl rfl rfl) (qv 0) (qa_cons (q_ix (il_ix (hu1 hr)) (qv 4) q_int) (qa_cons (q_ix (il_ix (hu1 hr)) (qv 4) q_int) qa_nil))))))) qa_nil)))
    (qs_cons (q_drop (q_methA0 (ok_Source_take h) h.cl_Source h.me_Source_take hr (by decide) (takes_of rfl rfl rfl rfl) (qv 0)))
    (qs_cons (q_par2 (i := 5) (j := 6) rfl nd_Source_read_if_1 rfl rfl (by decide) rfl rfl (qa_cons qe_dead (qa_cons (q_tup qa_nil) qa_nil)))
    (qs_cons (q_ifS (qt_true (q_methA (ok_Source_is_next h) h.cl_Source h.me_Source_is_next hr (by decide) (takes_of rfl rfl rfl rfl) (qv 0) (qa_cons (qv 1) (qa_cons (q_tup (qa_cons (q_gstr rfl h.c_ELSE) qa_nil)) qa_nil)))) (qs_cons (q_drop (q_methA (ok_Source_demand h) h.cl_Source h.me_Source_demand hr (by decide) (takes_of rfl rfl rfl rfl) (qv 0) (qa_cons (q_cmp (ol_eq (hu64 hr)) (q_ix (il_ix (hu1 hr)) (q_ix (il_ix (hu1 hr)) (q_fld (allc (P := fun c => Cls _ (He.ga _ c) ∧ NoAttr _ (He.ga _ c) _) ⟨h.cl_Source, h.na_Source_split_lines⟩ (alln)) (qv 0)) (q_fld (allc (P := fun c => Cls _ (He.ga _ c) ∧ NoAttr _ (He.ga _ c) _) ⟨h.cl_Source, h.na_Source_at⟩ (alln)) (qv 0))) q_int) (q_lst (qa_cons (q_gstr rfl h.c_ELSE) qa_nil))) qa_nil)))
    (qs_cons (q_drop (q_methA0 (ok_Source_take h) h.cl_Source h.me_Source_take hr (by decide) (takes_of rfl rfl rfl rfl) (qv 0)))
    (qs_one (q_set (i := 6) nd_Source_read_if_1 rfl (Or.inl rfl) qe_dead)))) qs_nil)
    (qs_one (q_ret (q_tup (qa_cons (q_gstr rfl h.c_IF) (qa_cons (q_ix (il_ix (hu1 hr)) (qv 4) q_int) (qa_cons (q_ix (il_ix (hu1 hr)) (qv 4) q_int) (qa_cons (qv 5) (qa_cons (qv 6) qa_nil)))))))))))))
theorem nd_Source_read_command_1 : (["self", "deep", "can_fail", "ifs", "words"] : List Str).Nodup := by decide +kernel
theorem ok_Source_read_command_1 (h : Fx K mg) : OkM PW HasW.w K mg base 5 "Source" "read_command" 4 m_Source_read_command_1 := OkM.keep (N := ["self", "deep", "can_fail", "ifs", "words"]) (ps := ["self", "deep", "can_fail", "ifs"]) (k := 4) h.d_Source_read_command ⟨rfl, rfl, rfl, nd_Source_read_command_1, rfl, by decide +kernel, by decide +kernel⟩
  (fun _ _ _ _ _ _ us hl => match us, hl with | [_, _, _, _], _ => rfl) fun fd cdv A outer s H E hr =>
  (qs_cons (q_set (i := 4) nd_Source_read_command_1 rfl (Or.inl rfl) (q_ix (il_ix (hu1 hr)) (q_ix (il_ix (hu1 hr)) (q_fld (allc (P := fun c => Cls _ (He.ga _ c) ∧ NoAttr _ (He.ga _ c) _) ⟨h.cl_Source, h.na_Source_split_lines⟩ (alln)) (qv 0)) (q_fld (allc (P := fun c => Cls _ (He.ga _ c) ∧ NoAttr _ (He.ga _ c) _) ⟨h.cl_Source, h.na_Source_at⟩ (alln)) (qv 0))) q_int))
    (qs_cons (q_ifS (qt_cmp (ol_eq (hu64 hr)) (q_ix (il_ix (hu1 hr)) (qv 4) q_int) (q_gstr rfl h.c_IF)) (qs_one (q_ret (q_methA (ok_Source_read_if_1 h) h.cl_Source h.me_Source_read_if hr (by decide) (takes_of rfl rfl rfl rfl) (qv 0) (qa_cons (qv 1) (qa_cons (qv 2) (qa_cons (qv 3) qa_nil)))))) qs_nil)
    (qs_cons (q_ifS (qt_cmp (ol_eq (hu64 hr)) (q_ix (il_ix (hu1 hr)) (qv 4) q_int) (q_gstr rfl h.c_COPY)) (qs_cons (q_drop (q_methA (ok_Source_demand h) h.cl_Source h.me_Source_demand hr (by decide) (takes_of rfl rfl rfl rfl) (qv 0) (qa_cons (q_and (q_cmp (ol_eq (hu64 hr)) (q_callB cl_len rfl h.n_len bt_len (qa_cons (qv 4) qa_nil)) (q_gint rfl h.c_QUADRUPLE)) (q_and (q_cmp (ol_eq (hu64 hr)) (q_ix (il_ix (hu1 hr)) (qv 4) q_int) (q_gstr rfl h.c_TO)) (q_one (q_cmp (ol_in (hu65 hr)) (q_ix (il_ix (hu1 hr)) (qv 4) q_int) (q_fld (allc (P := fun c => Cls _ (He.ga _ c) ∧ NoAttr _ (He.ga _ c) _) ⟨h.cl_Source, h.na_Source_words_of⟩ (alln)) (qv 0)))))) qa_nil)))
    (qs_cons (q_drop (q_methA (ok_Source_demand h) h.cl_Source h.me_Source_demand hr (by decide) (takes_of rfl rfl rfl rfl) (qv 0) (qa_cons (q_cmp (ol_eq (hu64 hr)) (q_get2 (hu1 hr) (q_fld (allc (P := fun c => Cls _ (He.ga _ c) ∧ NoAttr _ (He.ga _ c) _) ⟨h.cl_Source, h.na_Source_words_of⟩ (alln)) (qv 0)) (q_ix (il_ix (hu1 hr)) (qv 4) q_int) (q_tup qa_nil) ⟨rfl, rfl, rfl, rfl⟩) (q_ix (il_ix (hu1 hr)) (q_fld (allc (P := fun c => Cls _ (He.ga _ c) ∧ NoAttr _ (He.ga _ c) _) ⟨h.cl_Source, h.na_Source_words_of⟩ (alln)) (qv 0)) (q_ix (il_ix (hu1 hr)) (qv 4) q_int))) qa_nil)))
    (qs_cons (q_drop (q_methA0 (ok_Source_take h) h.cl_Source h.me_Source_take hr (by decide) (takes_of rfl rfl rfl rfl) (qv 0)))
    (qs_one (q_ret (q_tup (qa_cons (q_gstr rfl h.c_COPY) (qa_cons (q_ix (il_ix (hu1 hr)) (qv 4) q_int) (qa_cons (q_ix (il_ix (hu1 hr)) (qv 4) q_int) qa_nil))))))))) qs_nil)
    (qs_cons (q_ifS (qt_cmp (ol_eq (hu64 hr)) (q_ix (il_ix (hu1 hr)) (qv 4) q_int) (q_gstr rfl h.c_FAIL)) (qs_one (q_drop (q_methA (ok_Source_demand h) h.cl_Source h.me_Source_demand hr (by decide) (takes_of rfl rfl rfl rfl) (qv 0) (qa_cons (q_and (qv 2) (q_one (q_cmp (ol_eq (hu64 hr)) (q_callB cl_len rfl h.n_len bt_len (qa_cons (qv 4) qa_nil)) q_int))) qa_nil)))) (qs_one (q_drop (q_methA (ok_Source_demand h) h.cl_Source h.me_Source_demand hr (by decide) (takes_of rfl rfl rfl rfl) (qv 0) (qa_cons (q_and (q_or (qv 2) (q_one (q_cmp (ol_eq (hu64 hr)) (q_ix (il_ix (hu1 hr)) (qv 4) q_int) (q_gstr rfl h.c_SET)))) (q_and (q_cmp (ol_eq (hu64 hr)) (q_callB cl_len rfl h.n_len bt_len (qa_cons (qv 4) qa_nil)) (q_gint rfl h.c_TRIPLE)) (q_one (q_methA (ok_Source_has_cell h) h.cl_Source h.me_Source_has_cell hr (by decide) (takes_of rfl rfl rfl rfl) (qv 0) (qa_cons (q_ix (il_ix (hu1 hr)) (qv 4) q_int) (qa_cons (q_ix (il_ix (hu1 hr)) (qv 4) q_int) qa_nil)))))) qa_nil)))))
    (qs_one (q_ret (q_callTy (cl_tupleA rfl) rfl h.n_tuple PyProof.Rows.boot_tuple (qa_cons (q_methA0 (ok_Source_take h) h.cl_Source h.me_Source_take hr (by decide) (takes_of rfl rfl rfl rfl) (qv 0)) qa_nil))))))))
theorem nd_Source_read_block_1 : (["self", "deep", "can_fail", "ifs", "least", "found"] : List Str).Nodup := by decide +kernel
theorem ok_Source_read_block_1 (h : Fx K mg) : OkM PW HasW.w K mg base 6 "Source" "read_block" 5 m_Source_read_block_1 := OkM.keep (N := ["self", "deep", "can_fail", "ifs", "least", "found"]) (ps := ["self", "deep", "can_fail", "ifs", "least"]) (k := 5) h.d_Source_read_block ⟨rfl, rfl, rfl, nd_Source_read_block_1, rfl, by decide +kernel, by decide +kernel⟩
  (fun _ _ _ _ _ _ us hl => match us, hl with | [_, _, _, _, _], _ => rfl) fun fd cdv A outer s H E hr =>
  (qs_cons (q_set (i := 5) nd_Source_read_block_1 rfl (Or.inl rfl) (q_lstC qa_nil))
    (qs_cons (q_while 40 (passes_of rfl) (qt_w (qw_or (qt_cmp (ol_lt (hu64 hr)) (q_callB cl_len rfl h.n_len bt_len (qa_cons (qv 5) qa_nil)) (qv 4)) (qw_or1 (qt_true (q_methA (ok_Source_is_next h) h.cl_Source h.me_Source_is_next hr (by decide) (takes_of rfl rfl rfl rfl) (qv 0) (qa_cons (qv 1) (qa_cons (q_gtup rfl h.t_COMMANDS.1 h.t_COMMANDS.2) qa_nil))))))) (qs_cons (q_drop (q_methA (ok_Source_demand h) h.cl_Source h.me_Source_demand hr (by decide) (takes_of rfl rfl rfl rfl) (qv 0) (qa_cons (q_and (q_methA (ok_Source_is_next h) h.cl_Source h.me_Source_is_next hr (by decide) (takes_of rfl rfl rfl rfl) (qv 0) (qa_cons (qv 1) (qa_cons (q_gtup rfl h.t_COMMANDS.1 h.t_COMMANDS.2) qa_nil))) (q_one (q_cmp (ol_lt (hu64 hr)) (q_callB cl_len rfl h.n_len bt_len (qa_cons (qv 5) qa_nil)) (q_gint rfl h.c_MOST_COMMANDS)))) qa_nil)))
    (qs_one (q_drop (q_bm tyk_list PySem.F.plainAttrs_list PySem.F.slot_list_append PySem.F.type_list_append ml_append (qv 5) (qa_cons (q_methA (ok_Source_read_command_1 h) h.cl_Source h.me_Source_read_command hr (by decide) (takes_of rfl rfl rfl rfl) (qv 0) (qa_cons (qv 1) (qa_cons (qv 2) (qa_cons (qv 3) qa_nil)))) qa_nil))))))
    (qs_one (q_ret (q_callTy (cl_tupleA rfl) rfl h.n_tuple PyProof.Rows.boot_tuple (qa_cons (qv 5) qa_nil))))))
theorem nd_Source_read_if_2 : (["self", "deep", "can_fail", "ifs", "words", "yes", "no"] : List Str).Nodup := by decide +kernel
theorem ok_Source_read_if_2 (h : Fx K mg) : OkM PW HasW.w K mg base 7 "Source" "read_if" 4 m_Source_read_if_2 := OkM.keep (N := ["self", "deep", "can_fail", "ifs", "words", "yes", "no"]) (ps := ["self", "deep", "can_fail", "ifs"]) (k := 6) h.d_Source_read_if ⟨rfl, rfl, rfl, nd_Source_read_if_2, rfl, by decide +kernel, by decide +kernel⟩
  (fun _ _ _ _ _ _ us hl => match us, hl with | [_, _, _, _], _ => rfl) fun fd cdv A outer s H E hr =>
  (qs_cons (q_set (i := 4) nd_Source_read_if_2 rfl (Or.inl rfl) (q_ix (il_ix (hu1 hr)) (q_ix (il_ix (hu1 hr)) (q_fld (allc (P := fun c => Cls _ (He.ga _ c) ∧ NoAttr _ (He.ga _ c) _) ⟨h.cl_Source, h.na_Source_split_lines⟩ (alln)) (qv 0)) (q_fld (allc (P := fun c => Cls _ (He.ga _ c) ∧ NoAttr _ (He.ga _ c) _) ⟨h.cl_Source, h.na_Source_at⟩ (alln)) (qv 0))) q_int))
    (qs_cons (q_drop (q_methA (ok_Source_demand h) h.cl_Source h.me_Source_demand hr (by decide) (takes_of rfl rfl rfl rfl) (qv 0) (qa_cons (q_and (q_cmp ol_gt (qv 3) q_int) (q_and (q_cmp (ol_eq (hu64 hr)) (q_callB cl_len rfl h.n_len bt_len (qa_cons (qv 4) qa_nil)) (q_gint rfl h.c_QUADRUPLE)) (q_and (q_cmp (ol_eq (hu64 hr)) (q_ix (il_ix (hu1 hr)) (qv 4) q_int) (q_gstr rfl h.c_IS)) (q_one (q_methA (ok_Source_has_cell h) h.cl_Source h.me_Source_has_cell hr (by decide) (takes_of rfl rfl rfl rfl) (qv 0) (qa_cons (q_ix (il_ix (hu1 hr)) (qv 4) q_int) (qa_cons (q_ix (il_ix (hu1 hr)) (qv 4) q_int) qa_nil))))))) qa_nil)))
    (qs_cons (q_drop (q_methA0 (ok_Source_take h) h.cl_Source h.me_Source_take hr (by decide) (takes_of rfl rfl rfl rfl) (qv 0)))
    (qs_cons (q_par2 (i := 5) (j := 6) rfl nd_Source_read_if_2 rfl rfl (by decide) rfl rfl (qa_cons (q_methA (ok_Source_read_block_1 h) h.cl_Source h.me_Source_read_block hr (by decide) (takes_of rfl rfl rfl rfl) (qv 0) (qa_cons (q_op ol_add (qv 1) q_int) (qa_cons (qv 2) (qa_cons (q_op ol_sub (qv 3) q_int) (qa_cons q_int qa_nil))))) (qa_cons (q_tup qa_nil) qa_nil)))
    (qs_cons (q_ifS (qt_true (q_methA (ok_Source_is_next h) h.cl_Source h.me_Source_is_next hr (by decide) (takes_of rfl rfl rfl rfl) (qv 0) (qa_cons (qv 1) (qa_cons (q_tup (qa_cons (q_gstr rfl h.c_ELSE) qa_nil)) qa_nil)))) (qs_cons (q_drop (q_methA (ok_Source_demand h) h.cl_Source h.me_Source_demand hr (by decide) (takes_of rfl rfl rfl rfl) (qv 0) (qa_cons (q_cmp (ol_eq (hu64 hr)) (q_ix (il_ix (hu1 hr)) (q_ix (il_ix (hu1 hr)) (q_fld (allc (P := fun c => Cls _ (He.ga _ c) ∧ NoAttr _ (He.ga _ c) _) ⟨h.cl_Source, h.na_Source_split_lines⟩ (alln)) (qv 0)) (q_fld (allc (P := fun c => Cls _ (He.ga _ c) ∧ NoAttr _ (He.ga _ c) _) ⟨h.cl_Source, h.na_Source_at⟩ (alln)) (qv 0))) q_int) (q_lst (qa_cons (q_gstr rfl h.c_ELSE) qa_nil))) qa_nil)))
    (qs_cons (q_drop (q_methA0 (ok_Source_take h) h.cl_Source h.me_Source_take hr (by decide) (takes_of rfl rfl rfl rfl) (qv 0)))
    (qs_one (q_set (i := 6) nd_Source_read_if_2 rfl (Or.inl rfl) (q_methA (ok_Source_read_block_1 h) h.cl_Source h.me_Source_read_block hr (by decide) (takes_of rfl rfl rfl rfl) (qv 0) (qa_cons (q_op ol_add (qv 1) q_int) (qa_cons (qv 2) (qa_cons (q_op ol_sub (qv 3) q_int) (qa_cons q_int qa_nil))))))))) qs_nil)
    (qs_one (q_ret (q_tup (qa_cons (q_gstr rfl h.c_IF) (qa_cons (q_ix (il_ix (hu1 hr)) (qv 4) q_int) (qa_cons (q_ix (il_ix (hu1 hr)) (qv 4) q_int) (qa_cons (qv 5) (qa_cons (qv 6) qa_nil)))))))))))))
theorem nd_Source_read_command_2 : (["self", "deep", "can_fail", "ifs", "words"] : List Str).Nodup := by decide +kernel
theorem ok_Source_read_command_2 (h : Fx K mg) : OkM PW HasW.w K mg base 8 "Source" "read_command" 4 m_Source_read_command_2 := OkM.keep (N := ["self", "deep", "can_fail", "ifs", "words"]) (ps := ["self", "deep", "can_fail", "ifs"]) (k := 7) h.d_Source_read_command ⟨rfl, rfl, rfl, nd_Source_read_command_2, rfl, by decide +kernel, by decide +kernel⟩
  (fun _ _ _ _ _ _ us hl => match us, hl with | [_, _, _, _], _ => rfl) fun fd cdv A outer s H E hr =>
  (qs_cons (q_set (i := 4) nd_Source_read_command_2 rfl (Or.inl rfl) (q_ix (il_ix (hu1 hr)) (q_ix (il_ix (hu1 hr)) (q_fld (allc (P := fun c => Cls _ (He.ga _ c) ∧ NoAttr _ (He.ga _ c) _) ⟨h.cl_Source, h.na_Source_split_lines⟩ (alln)) (qv 0)) (q_fld (allc (P := fun c => Cls _ (He.ga _ c) ∧ NoAttr _ (He.ga _ c) _) ⟨h.cl_Source, h.na_Source_at⟩ (alln)) (qv 0))) q_int))
    (qs_cons (q_ifS (qt_cmp (ol_eq (hu64 hr)) (q_ix (il_ix (hu1 hr)) (qv 4) q_int) (q_gstr rfl h.c_IF)) (qs_one (q_ret (q_methA (ok_Source_read_if_2 h) h.cl_Source h.me_Source_read_if hr (by decide) (takes_of rfl rfl rfl rfl) (qv 0) (qa_cons (qv 1) (qa_cons (qv 2) (qa_cons (qv 3) qa_nil)))))) qs_nil)
    (qs_cons (q_ifS (qt_cmp (ol_eq (hu64 hr)) (q_ix (il_ix (hu1 hr)) (qv 4) q_int) (q_gstr rfl h.c_COPY)) (qs_cons (q_drop (q_methA (ok_Source_demand h) h.cl_Source h.me_Source_demand hr (by decide) (takes_of rfl rfl rfl rfl) (qv 0) (qa_cons (q_and (q_cmp (ol_eq (hu64 hr)) (q_callB cl_len rfl h.n_len bt_len (qa_cons (qv 4) qa_nil)) (q_gint rfl h.c_QUADRUPLE)) (q_and (q_cmp (ol_eq (hu64 hr)) (q_ix (il_ix (hu1 hr)) (qv 4) q_int) (q_gstr rfl h.c_TO)) (q_one (q_cmp (ol_in (hu65 hr)) (q_ix (il_ix (hu1 hr)) (qv 4) q_int) (q_fld (allc (P := fun c => Cls _ (He.ga _ c) ∧ NoAttr _ (He.ga _ c) _) ⟨h.cl_Source, h.na_Source_words_of⟩ (alln)) (qv 0)))))) qa_nil)))
    (qs_cons (q_drop (q_methA (ok_Source_demand h) h.cl_Source h.me_Source_demand hr (by decide) (takes_of rfl rfl rfl rfl) (qv 0) (qa_cons (q_cmp (ol_eq (hu64 hr)) (q_get2 (hu1 hr) (q_fld (allc (P := fun c => Cls _ (He.ga _ c) ∧ NoAttr _ (He.ga _ c) _) ⟨h.cl_Source, h.na_Source_words_of⟩ (alln)) (qv 0)) (q_ix (il_ix (hu1 hr)) (qv 4) q_int) (q_tup qa_nil) ⟨rfl, rfl, rfl, rfl⟩) (q_ix (il_ix (hu1 hr)) (q_fld (allc (P := fun c => Cls _ (He.ga _ c) ∧ NoAttr _ (He.ga _ c) _) ⟨h.cl_Source, h.na_Source_words_of⟩ (alln)) (qv 0)) (q_ix (il_ix (hu1 hr)) (qv 4) q_int))) qa_nil)))
    (qs_cons (q_drop (q_methA0 (ok_Source_take h) h.cl_Source h.me_Source_take hr (by decide) (takes_of rfl rfl rfl rfl) (qv 0)))
    (qs_one (q_ret (q_tup (qa_cons (q_gstr rfl h.c_COPY) (qa_cons (q_ix (il_ix (hu1 hr)) (qv 4) q_int) (qa_cons (q_ix (il_ix (hu1 hr)) (qv 4) q_int) qa_nil))))))))) qs_nil)
    (qs_cons (q_ifS (qt_cmp (ol_eq (hu64 hr)) (q_ix (il_ix (hu1 hr)) (qv 4) q_int) (q_gstr rfl h.c_FAIL)) (qs_one (q_drop (q_methA (ok_Source_demand h) h.cl_Source h.me_Source_demand hr (by decide) (takes_of rfl rfl rfl rfl) (qv 0) (qa_cons (q_and (qv 2) (q_one (q_cmp (ol_eq (hu64 hr)) (q_callB cl_len rfl h.n_len bt_len (qa_cons (qv 4) qa_nil)) q_int))) qa_nil)))) (qs_one (q_drop (q_methA (ok_Source_demand h) h.cl_Source h.me_Source_demand hr (by decide) (takes_of rfl rfl rfl rfl) (qv 0) (qa_cons (q_and (q_or (qv 2) (q_one (q_cmp (ol_eq (hu64 hr)) (q_ix (il_ix (hu1 hr)) (qv 4) q_int) (q_gstr rfl h.c_SET)))) (q_and (q_cmp (ol_eq (hu64 hr)) (q_callB cl_len rfl h.n_len bt_len (qa_cons (qv 4) qa_nil)) (q_gint rfl h.c_TRIPLE)) (q_one (q_methA (ok_Source_has_cell h) h.cl_Source h.me_Source_has_cell hr (by decide) (takes_of rfl rfl rfl rfl) (qv 0) (qa_cons (q_ix (il_ix (hu1 hr)) (qv 4) q_int) (qa_cons (q_ix (il_ix (hu1 hr)) (qv 4) q_int) qa_nil)))))) qa_nil)))))
    (qs_one (q_ret (q_callTy (cl_tupleA rfl) rfl h.n_tuple PyProof.Rows.boot_tuple (qa_cons (q_methA0 (ok_Source_take h) h.cl_Source h.me_Source_take hr (by decide) (takes_of rfl rfl rfl rfl) (qv 0)) qa_nil))))))))
theorem nd_Source_read_block_2 : (["self", "deep", "can_fail", "ifs", "least", "found"] : List Str).Nodup := by decide +kernel
theorem ok_Source_read_block_2 (h : Fx K mg) : OkM PW HasW.w K mg base 9 "Source" "read_block" 5 m_Source_read_block_2 := OkM.keep (N := ["self", "deep", "can_fail", "ifs", "least", "found"]) (ps := ["self", "deep", "can_fail", "ifs", "least"]) (k := 8) h.d_Source_read_block ⟨rfl, rfl, rfl, nd_Source_read_block_2, rfl, by decide +kernel, by decide +kernel⟩
  (fun _ _ _ _ _ _ us hl => match us, hl with | [_, _, _, _, _], _ => rfl) fun fd cdv A outer s H E hr =>
  (qs_cons (q_set (i := 5) nd_Source_read_block_2 rfl (Or.inl rfl) (q_lstC qa_nil))
    (qs_cons (q_while 40 (passes_of rfl) (qt_w (qw_or (qt_cmp (ol_lt (hu64 hr)) (q_callB cl_len rfl h.n_len bt_len (qa_cons (qv 5) qa_nil)) (qv 4)) (qw_or1 (qt_true (q_methA (ok_Source_is_next h) h.cl_Source h.me_Source_is_next hr (by decide) (takes_of rfl rfl rfl rfl) (qv 0) (qa_cons (qv 1) (qa_cons (q_gtup rfl h.t_COMMANDS.1 h.t_COMMANDS.2) qa_nil))))))) (qs_cons (q_drop (q_methA (ok_Source_demand h) h.cl_Source h.me_Source_demand hr (by decide) (takes_of rfl rfl rfl rfl) (qv 0) (qa_cons (q_and (q_methA (ok_Source_is_next h) h.cl_Source h.me_Source_is_next hr (by decide) (takes_of rfl rfl rfl rfl) (qv 0) (qa_cons (qv 1) (qa_cons (q_gtup rfl h.t_COMMANDS.1 h.t_COMMANDS.2) qa_nil))) (q_one (q_cmp (ol_lt (hu64 hr)) (q_callB cl_len rfl h.n_len bt_len (qa_cons (qv 5) qa_nil)) (q_gint rfl h.c_MOST_COMMANDS)))) qa_nil)))
    (qs_one (q_drop (q_bm tyk_list PySem.F.plainAttrs_list PySem.F.slot_list_append PySem.F.type_list_append ml_append (qv 5) (qa_cons (q_methA (ok_Source_read_command_2 h) h.cl_Source h.me_Source_read_command hr (by decide) (takes_of rfl rfl rfl rfl) (qv 0) (qa_cons (qv 1) (qa_cons (qv 2) (qa_cons (qv 3) qa_nil)))) qa_nil))))))
    (qs_one (q_ret (q_callTy (cl_tupleA rfl) rfl h.n_tuple PyProof.Rows.boot_tuple (qa_cons (qv 5) qa_nil))))))
theorem nd_Source_read_if_3 : (["self", "deep", "can_fail", "ifs", "words", "yes", "no"] : List Str).Nodup := by decide +kernel
theorem ok_Source_read_if_3 (h : Fx K mg) : OkM PW HasW.w K mg base 10 "Source" "read_if" 4 m_Source_read_if_3 := OkM.keep (N := ["self", "deep", "can_fail", "ifs", "words", "yes", "no"]) (ps := ["self", "deep", "can_fail", "ifs"]) (k := 9) h.d_Source_read_if ⟨rfl, rfl, rfl, nd_Source_read_if_3, rfl, by decide +kernel, by decide +kernel⟩
  (fun _ _ _ _ _ _ us hl => match us, hl with | [_, _, _, _], _ => rfl) fun fd cdv A outer s H E hr =>
  (qs_cons (q_set (i := 4) nd_Source_read_if_3 rfl (Or.inl rfl) (q_ix (il_ix (hu1 hr)) (q_ix (il_ix (hu1 hr)) (q_fld (allc (P := fun c => Cls _ (He.ga _ c) ∧ NoAttr _ (He.ga _ c) _) ⟨h.cl_Source, h.na_Source_split_lines⟩ (alln)) (qv 0)) (q_fld (allc (P := fun c => Cls _ (He.ga _ c) ∧ NoAttr _ (He.ga _ c) _) ⟨h.cl_Source, h.na_Source_at⟩ (alln)) (qv 0))) q_int))
    (qs_cons (q_drop (q_methA (ok_Source_demand h) h.cl_Source h.me_Source_demand hr (by decide) (takes_of rfl rfl rfl rfl) (qv 0) (qa_cons (q_and (q_cmp ol_gt (qv 3) q_int) (q_and (q_cmp (ol_eq (hu64 hr)) (q_callB cl_len rfl h.n_len bt_len (qa_cons (qv 4) qa_nil)) (q_gint rfl h.c_QUADRUPLE)) (q_and (q_cmp (ol_eq (hu64 hr)) (q_ix (il_ix (hu1 hr)) (qv 4) q_int) (q_gstr rfl h.c_IS)) (q_one (q_methA (ok_Source_has_cell h) h.cl_Source h.me_Source_has_cell hr (by decide) (takes_of rfl rfl rfl rfl) (qv 0) (qa_cons (q_ix (il_ix (hu1 hr)) (qv 4) q_int) (qa_cons (q_ix (il_ix (hu1 hr)) (qv 4) q_int) qa_nil))))))) qa_nil)))
    (qs_cons (q_drop (q_methA0 (ok_Source_take h) h.cl_Source h.me_Source_take hr (by decide) (takes_of rfl rfl rfl rfl) (qv 0)))
    (qs_cons (q_par2 (i := 5) (j := 6) rfl nd_Source_read_if_3 rfl rfl (by decide) rfl rfl (qa_cons (q_methA (ok_Source_read_block_2 h) h.cl_Source h.me_Source_read_block hr (by decide) (takes_of rfl rfl rfl rfl) (qv 0) (qa_cons (q_op ol_add (qv 1) q_int) (qa_cons (qv 2) (qa_cons (q_op ol_sub (qv 3) q_int) (qa_cons q_int qa_nil))))) (qa_cons (q_tup qa_nil) qa_nil)))
    (qs_cons (q_ifS (qt_true (q_methA (ok_Source_is_next h) h.cl_Source h.me_Source_is_next hr (by decide) (takes_of rfl rfl rfl rfl) (qv 0) (qa_cons (qv 1) (qa_cons (q_tup (qa_cons (q_gstr rfl h.c_ELSE) qa_nil)) qa_nil)))) (qs_cons (q_drop (q_methA (ok_Source_demand h) h.cl_Source h.me_Source_demand hr (by decide) (takes_of rfl rfl rfl rfl) (qv 0) (qa_cons (q_cmp (ol_eq (hu64 hr)) (q_ix (il_ix (hu1 hr)) (q_ix (il_ix (hu1 hr)) (q_fld (allc (P := fun c => Cls _ (He.ga _ c) ∧ NoAttr _ (He.ga _ c) _) ⟨h.cl_Source, h.na_Source_split_lines⟩ (alln)) (qv 0)) (q_fld (allc (P := fun c => Cls _ (He.ga _ c) ∧ NoAttr _ (He.ga _ c) _) ⟨h.cl_Source, h.na_Source_at⟩ (alln)) (qv 0))) q_int) (q_lst (qa_cons (q_gstr rfl h.c_ELSE) qa_nil))) qa_nil)))
    (qs_cons (q_drop (q_methA0 (ok_Source_take h) h.cl_Source h.me_Source_take hr (by decide) (takes_of rfl rfl rfl rfl) (qv 0)))
    (qs_one (q_set (i := 6) nd_Source_read_if_3 rfl (Or.inl rfl) (q_methA (ok_Source_read_block_2 h) h.cl_Source h.me_Source_read_block hr (by decide) (takes_of rfl rfl rfl rfl) (qv 0) (qa_cons (q_op ol_add (qv 1) q_int) (qa_cons (qv 2) (qa_cons (q_op ol_sub (qv 3) q_int) (qa_cons q_int qa_nil))))))))) qs_nil)
    (qs_one (q_ret (q_tup (qa_cons (q_gstr rfl h.c_IF) (qa_cons (q_ix (il_ix (hu1 hr)) (qv 4) q_int) (qa_cons (q_ix (il_ix (hu1 hr)) (qv 4) q_int) (qa_cons (qv 5) (qa_cons (qv 6) qa_nil)))))))))))))
theorem nd_Source_read_command_3 : (["self", "deep", "can_fail", "ifs", "words"] : List Str).Nodup := by decide +kernel
theorem ok_Source_read_command_3 (h : Fx K mg) : OkM PW HasW.w K mg base 11 "Source" "read_command" 4 m_Source_read_command_3 := OkM.keep (N := ["self", "deep", "can_fail", "ifs", "words"]) (ps := ["self", "deep", "can_fail", "ifs"]) (k := 10) h.d_Source_read_command ⟨rfl, rfl, rfl, nd_Source_read_command_3, rfl, by decide +kernel, by decide +kernel⟩
  (fun _ _ _ _ _ _ us hl => match us, hl with | [_, _, _, _], _ => rfl) fun fd cdv A outer s H E hr =>
  (qs_cons (q_set (i := 4) nd_Source_read_command_3 rfl (Or.inl rfl) (q_ix (il_ix (hu1 hr)) (q_ix (il_ix (hu1 hr)) (q_fld (allc (P := fun c => Cls _ (He.ga _ c) ∧ NoAttr _ (He.ga _ c) _) ⟨h.cl_Source, h.na_Source_split_lines⟩ (alln)) (qv 0)) (q_fld (allc (P := fun c => Cls _ (He.ga _ c) ∧ NoAttr _ (He.ga _ c) _) ⟨h.cl_Source, h.na_Source_at⟩ (alln)) (qv 0))) q_int))
    (qs_cons (q_ifS (qt_cmp (ol_eq (hu64 hr)) (q_ix (il_ix (hu1 hr)) (qv 4) q_int) (q_gstr rfl h.c_IF)) (qs_one (q_ret (q_methA (ok_Source_read_if_3 h) h.cl_Source h.me_Source_read_if hr (by decide) (takes_of rfl rfl rfl rfl) (qv 0) (qa_cons (qv 1) (qa_cons (qv 2) (qa_cons (qv 3) qa_nil)))))) qs_nil)
    (qs_cons (q_ifS (qt_cmp (ol_eq (hu64 hr)) (q_ix (il_ix (hu1 hr)) (qv 4) q_int) (q_gstr rfl h.c_COPY)) (qs_cons (q_drop (q_methA (ok_Source_demand h) h.cl_Source h.me_Source_demand hr (by decide) (takes_of rfl rfl rfl rfl) (qv 0) (qa_cons (q_and (q_cmp (ol_eq (hu64 hr)) (q_callB cl_len rfl h.n_len bt_len (qa_cons (qv 4) qa_nil)) (q_gint rfl h.c_QUADRUPLE)) (q_and (q_cmp (ol_eq (hu64 hr)) (q_ix (il_ix (hu1 hr)) (qv 4) q_int) (q_gstr rfl h.c_TO)) (q_one (q_cmp (ol_in (hu65 hr)) (q_ix (il_ix (hu1 hr)) (qv 4) q_int) (q_fld (allc (P := fun c => Cls _ (He.ga _ c) ∧ NoAttr _ (He.ga _ c) _) ⟨h.cl_Source, h.na_Source_words_of⟩ (alln)) (qv 0)))))) qa_nil)))
    (qs_cons (q_drop (q_methA (ok_Source_demand h) h.cl_Source h.me_Source_demand hr (by decide) (takes_of rfl rfl rfl rfl) (qv 0) (qa_cons (q_cmp (ol_eq (hu64 hr)) (q_get2 (hu1 hr) (q_fld (allc (P := fun c => Cls _ (He.ga _ c) ∧ NoAttr _ (He.ga _ c) _) ⟨h.cl_Source, h.na_Source_words_of⟩ (alln)) (qv 0)) (q_ix (il_ix (hu1 hr)) (qv 4) q_int) (q_tup qa_nil) ⟨rfl, rfl, rfl, rfl⟩) (q_ix (il_ix (hu1 hr)) (q_fld (allc (P := fun c => Cls _ (He.ga _ c) ∧ NoAttr _ (He.ga _ c) _) ⟨h.cl_Source, h.na_Source_words_of⟩ (alln)) (qv 0)) (q_ix (il_ix (hu1 hr)) (qv 4) q_int))) qa_nil)))
    (qs_cons (q_drop (q_methA0 (ok_Source_take h) h.cl_Source h.me_Source_take hr (by decide) (takes_of rfl rfl rfl rfl) (qv 0)))
    (qs_one (q_ret (q_tup (qa_cons (q_gstr rfl h.c_COPY) (qa_cons (q_ix (il_ix (hu1 hr)) (qv 4) q_int) (qa_cons (q_ix (il_ix (hu1 hr)) (qv 4) q_int) qa_nil))))))))) qs_nil)
    (qs_cons (q_ifS (qt_cmp (ol_eq (hu64 hr)) (q_ix (il_ix (hu1 hr)) (qv 4) q_int) (q_gstr rfl h.c_FAIL)) (qs_one (q_drop (q_methA (ok_Source_demand h) h.cl_Source h.me_Source_demand hr (by decide) (takes_of rfl rfl rfl rfl) (qv 0) (qa_cons (q_and (qv 2) (q_one (q_cmp (ol_eq (hu64 hr)) (q_callB cl_len rfl h.n_len bt_len (qa_cons (qv 4) qa_nil)) q_int))) qa_nil)))) (qs_one (q_drop (q_methA (ok_Source_demand h) h.cl_Source h.me_Source_demand hr (by decide) (takes_of rfl rfl rfl rfl) (qv 0) (qa_cons (q_and (q_or (qv 2) (q_one (q_cmp (ol_eq (hu64 hr)) (q_ix (il_ix (hu1 hr)) (qv 4) q_int) (q_gstr rfl h.c_SET)))) (q_and (q_cmp (ol_eq (hu64 hr)) (q_callB cl_len rfl h.n_len bt_len (qa_cons (qv 4) qa_nil)) (q_gint rfl h.c_TRIPLE)) (q_one (q_methA (ok_Source_has_cell h) h.cl_Source h.me_Source_has_cell hr (by decide) (takes_of rfl rfl rfl rfl) (qv 0) (qa_cons (q_ix (il_ix (hu1 hr)) (qv 4) q_int) (qa_cons (q_ix (il_ix (hu1 hr)) (qv 4) q_int) qa_nil)))))) qa_nil)))))
    (qs_one (q_ret (q_callTy (cl_tupleA rfl) rfl h.n_tuple PyProof.Rows.boot_tuple (qa_cons (q_methA0 (ok_Source_take h) h.cl_Source h.me_Source_take hr (by decide) (takes_of rfl rfl rfl rfl) (qv 0)) qa_nil))))))))
theorem nd_Source_read_block_3 : (["self", "deep", "can_fail", "ifs", "least", "found"] : List Str).Nodup := by decide +kernel
theorem ok_Source_read_block_3 (h : Fx K mg) : OkM PW HasW.w K mg base 12 "Source" "read_block" 5 m_Source_read_block_3 := OkM.keep (N := ["self", "deep", "can_fail", "ifs", "least", "found"]) (ps := ["self", "deep", "can_fail", "ifs", "least"]) (k := 11) h.d_Source_read_block ⟨rfl, rfl, rfl, nd_Source_read_block_3, rfl, by decide +kernel, by decide +kernel⟩
  (fun _ _ _ _ _ _ us hl => match us, hl with | [_, _, _, _, _], _ => rfl) fun fd cdv A outer s H E hr =>
  (qs_cons (q_set (i := 5) nd_Source_read_block_3 rfl (Or.inl rfl) (q_lstC qa_nil))
    (qs_cons (q_while 40 (passes_of rfl) (qt_w (qw_or (qt_cmp (ol_lt (hu64 hr)) (q_callB cl_len rfl h.n_len bt_len (qa_cons (qv 5) qa_nil)) (qv 4)) (qw_or1 (qt_true (q_methA (ok_Source_is_next h) h.cl_Source h.me_Source_is_next hr (by decide) (takes_of rfl rfl rfl rfl) (qv 0) (qa_cons (qv 1) (qa_cons (q_gtup rfl h.t_COMMANDS.1 h.t_COMMANDS.2) qa_nil))))))) (qs_cons (q_drop (q_methA (ok_Source_demand h) h.cl_Source h.me_Source_demand hr (by decide) (takes_of rfl rfl rfl rfl) (qv 0) (qa_cons (q_and (q_methA (ok_Source_is_next h) h.cl_Source h.me_Source_is_next hr (by decide) (takes_of rfl rfl rfl rfl) (qv 0) (qa_cons (qv 1) (qa_cons (q_gtup rfl h.t_COMMANDS.1 h.t_COMMANDS.2) qa_nil))) (q_one (q_cmp (ol_lt (hu64 hr)) (q_callB cl_len rfl h.n_len bt_len (qa_cons (qv 5) qa_nil)) (q_gint rfl h.c_MOST_COMMANDS)))) qa_nil)))
    (qs_one (q_drop (q_bm tyk_list PySem.F.plainAttrs_list PySem.F.slot_list_append PySem.F.type_list_append ml_append (qv 5) (qa_cons (q_methA (ok_Source_read_command_3 h) h.cl_Source h.me_Source_read_command hr (by decide) (takes_of rfl rfl rfl rfl) (qv 0) (qa_cons (qv 1) (qa_cons (qv 2) (qa_cons (qv 3) qa_nil)))) qa_nil))))))
    (qs_one (q_ret (q_callTy (cl_tupleA rfl) rfl h.n_tuple PyProof.Rows.boot_tuple (qa_cons (qv 5) qa_nil))))))
theorem nd_Source_read_edge : (["self", "word"] : List Str).Nodup := by decide +kernel
theorem ok_Source_read_edge (h : Fx K mg) : OkM PW HasW.w K mg base 13 "Source" "read_edge" 2 m_Source_read_edge := OkM.keep (N := ["self", "word"]) (ps := ["self", "word"]) (k := 12) h.d_Source_read_edge ⟨rfl, rfl, rfl, nd_Source_read_edge, rfl, by decide +kernel, by decide +kernel⟩
  (fun _ _ _ _ _ _ us hl => match us, hl with | [_, _], _ => rfl) fun fd cdv A outer s H E hr =>
  (qs_cons (q_ifS (qt_not (qt_true (q_methA (ok_Source_is_next h) h.cl_Source h.me_Source_is_next hr (by decide) (takes_of rfl rfl rfl rfl) (qv 0) (qa_cons (q_gint rfl h.c_EDGE_DEEP) (qa_cons (q_tup (qa_cons (qv 1) qa_nil)) qa_nil))))) (qs_one (q_ret (q_tup qa_nil))) qs_nil)
    (qs_cons (q_drop (q_methA (ok_Source_demand h) h.cl_Source h.me_Source_demand hr (by decide) (takes_of rfl rfl rfl rfl) (qv 0) (qa_cons (q_cmp (ol_eq (hu64 hr)) (q_ix (il_ix (hu1 hr)) (q_ix (il_ix (hu1 hr)) (q_fld (allc (P := fun c => Cls _ (He.ga _ c) ∧ NoAttr _ (He.ga _ c) _) ⟨h.cl_Source, h.na_Source_split_lines⟩ (alln)) (qv 0)) (q_fld (allc (P := fun c => Cls _ (He.ga _ c) ∧ NoAttr _ (He.ga _ c) _) ⟨h.cl_Source, h.na_Source_at⟩ (alln)) (qv 0))) q_int) (q_lst (qa_cons (qv 1) qa_nil))) qa_nil)))
    (qs_cons (q_drop (q_methA0 (ok_Source_take h) h.cl_Source h.me_Source_take hr (by decide) (takes_of rfl rfl rfl rfl) (qv 0)))
    (qs_one (q_ret (q_methA (ok_Source_read_block_3 h) h.cl_Source h.me_Source_read_block hr (by decide) (takes_of rfl rfl rfl rfl) (qv 0) (qa_cons (q_gint rfl h.c_COMMAND_DEEP) (qa_cons (q_cmp (ol_ne (hu64 hr)) (qv 1) (q_gstr rfl h.c_CLOSE)) (qa_cons (q_gint rfl h.c_MOST_IFS) (qa_cons q_int qa_nil))))))))))
theorem nd_Source_read_check : (["self", "items", "words", "item"] : List Str).Nodup := by decide +kernel
theorem ok_Source_read_check (h : Fx K mg) : OkM PW HasW.w K mg base 13 "Source" "read_check" 2 m_Source_read_check := OkM.keep (N := ["self", "items", "words", "item"]) (ps := ["self", "items"]) (k := 12) h.d_Source_read_check ⟨rfl, rfl, rfl, nd_Source_read_check, rfl, by decide +kernel, by decide +kernel⟩
  (fun _ _ _ _ _ _ us hl => match us, hl with | [_, _], _ => rfl) fun fd cdv A outer s H E hr =>
  (qs_cons (q_drop (q_methA (ok_Source_demand h) h.cl_Source h.me_Source_demand hr (by decide) (takes_of rfl rfl rfl rfl) (qv 0) (qa_cons (q_methA (ok_Source_is_next h) h.cl_Source h.me_Source_is_next hr (by decide) (takes_of rfl rfl rfl rfl) (qv 0) (qa_cons (q_gint rfl h.c_EDGE_DEEP) (qa_cons (q_tup (qa_cons (q_gstr rfl h.c_CHECK) qa_nil)) qa_nil))) qa_nil)))
    (qs_cons (q_drop (q_methA (ok_Source_demand h) h.cl_Source h.me_Source_demand hr (by decide) (takes_of rfl rfl rfl rfl) (qv 0) (qa_cons (q_cmp (ol_lt (hu64 hr)) (q_callB cl_len rfl h.n_len bt_len (qa_cons (qv 1) qa_nil)) (q_gint rfl h.c_MOST_CHECKS_glasses)) qa_nil)))
    (qs_cons (q_set (i := 2) nd_Source_read_check rfl (Or.inl rfl) (q_ix (il_ix (hu1 hr)) (q_ix (il_ix (hu1 hr)) (q_fld (allc (P := fun c => Cls _ (He.ga _ c) ∧ NoAttr _ (He.ga _ c) _) ⟨h.cl_Source, h.na_Source_split_lines⟩ (alln)) (qv 0)) (q_fld (allc (P := fun c => Cls _ (He.ga _ c) ∧ NoAttr _ (He.ga _ c) _) ⟨h.cl_Source, h.na_Source_at⟩ (alln)) (qv 0))) q_int))
    (qs_cons (q_drop (q_methA (ok_Source_demand h) h.cl_Source h.me_Source_demand hr (by decide) (takes_of rfl rfl rfl rfl) (qv 0) (qa_cons (q_and (q_cmp (ol_eq (hu64 hr)) (q_callB cl_len rfl h.n_len bt_len (qa_cons (qv 2) qa_nil)) (q_gint rfl h.c_TRIPLE)) (q_and (q_callD (ok_is_name h) hr (by decide) rfl (takes_of rfl rfl rfl rfl) (qa_cons (q_ix (il_ix (hu1 hr)) (qv 2) q_int) qa_nil)) (q_one (q_cmp (ol_in (hu65 hr)) (q_ix (il_ix (hu1 hr)) (qv 2) q_int) (q_gtup rfl h.t_EDITIONS.1 h.t_EDITIONS.2))))) qa_nil)))
    (qs_cons (q_set (i := 3) nd_Source_read_check rfl (Or.inl rfl) (q_tup (qa_cons (q_ix (il_ix (hu1 hr)) (qv 2) q_int) (qa_cons (q_callTy cl_intA rfl h.n_int PyProof.Rows.boot_int (qa_cons (q_ix (il_ix (hu1 hr)) (qv 2) q_int) qa_nil)) qa_nil))))
    (qs_cons (q_drop (q_methA (ok_Source_demand h) h.cl_Source h.me_Source_demand hr (by decide) (takes_of rfl rfl rfl rfl) (qv 0) (qa_cons (q_or (q_cmp (ol_eq (hu64 hr)) (qv 1) (q_lst qa_nil)) (q_one (q_cmp (ol_lt (hu64 hr)) (q_ix (il_ix (hu1 hr)) (qv 1) (q_un ul_neg q_int)) (qv 3)))) qa_nil)))
    (qs_cons (q_drop (q_methA (ok_Source_demand h) h.cl_Source h.me_Source_demand hr (by decide) (takes_of rfl rfl rfl rfl) (qv 0) (qa_cons (q_or (q_cmp (ol_inN0 rfl (hu65 hr)) (qv 3) (q_fld (allc (P := fun c => Cls _ (He.ga _ c) ∧ NoAttr _ (He.ga _ c) _) ⟨h.cl_Source, h.na_Source_told_checks⟩ (alln)) (qv 0))) (q_one (q_cmp (ol_lt (hu64 hr)) (q_callB (cl_lenN rfl) rfl h.n_len bt_len (qa_cons (q_fld (allc (P := fun c => Cls _ (He.ga _ c) ∧ NoAttr _ (He.ga _ c) _) ⟨h.cl_Source, h.na_Source_told_checks⟩ (alln)) (qv 0)) qa_nil)) (q_gint rfl h.c_MOST_ITEMS)))) qa_nil)))
    (qs_cons (q_drop (q_methA0 (ok_Source_take h) h.cl_Source h.me_Source_take hr (by decide) (takes_of rfl rfl rfl rfl) (qv 0)))
    (qs_cons (q_putN rfl (hu65 hr) (q_fld (allc (P := fun c => Cls _ (He.ga _ c) ∧ NoAttr _ (He.ga _ c) _) ⟨h.cl_Source, h.na_Source_told_checks⟩ (alln)) (qv 0)) (qv 3) (q_methA (ok_Source_read_block_3 h) h.cl_Source h.me_Source_read_block hr (by decide) (takes_of rfl rfl rfl rfl) (qv 0) (qa_cons (q_gint rfl h.c_COMMAND_DEEP) (qa_cons q_bl (qa_cons (q_gint rfl h.c_MOST_IFS) (qa_cons q_int qa_nil))))))
    (qs_one (q_ret (qv 3))))))))))))
theorem nd_Source_read_group : (["self", "words", "name", "items", "check", "edition"] : List Str).Nodup := by decide +kernel
theorem ok_Source_read_group (h : Fx K mg) : OkM PW HasW.w K mg base 14 "Source" "read_group" 1 m_Source_read_group := OkM.keep (N := ["self", "words", "name", "items", "check", "edition"]) (ps := ["self"]) (k := 13) h.d_Source_read_group ⟨rfl, rfl, rfl, nd_Source_read_group, rfl, by decide +kernel, by decide +kernel⟩
  (fun _ _ _ _ _ _ us hl => match us, hl with | [_], _ => rfl) fun fd cdv A outer s H E hr =>
  (qs_cons (q_drop (q_methA (ok_Source_demand h) h.cl_Source h.me_Source_demand hr (by decide) (takes_of rfl rfl rfl rfl) (qv 0) (qa_cons (q_and (q_methA (ok_Source_is_next h) h.cl_Source h.me_Source_is_next hr (by decide) (takes_of rfl rfl rfl rfl) (qv 0) (qa_cons q_int (qa_cons (q_tup (qa_cons (q_gstr rfl h.c_GROUP) qa_nil)) qa_nil))) (q_one (q_cmp (ol_lt (hu64 hr)) (q_callB cl_len rfl h.n_len bt_len (qa_cons (q_fld (allc (P := fun c => Cls _ (He.ga _ c) ∧ NoAttr _ (He.ga _ c) _) ⟨h.cl_Source, h.na_Source_told_groups⟩ (alln)) (qv 0)) qa_nil)) (q_gint rfl h.c_MOST_GROUPS_glasses)))) qa_nil)))
    (qs_cons (q_set (i := 1) nd_Source_read_group rfl (Or.inl rfl) (q_ix (il_ix (hu1 hr)) (q_ix (il_ix (hu1 hr)) (q_fld (allc (P := fun c => Cls _ (He.ga _ c) ∧ NoAttr _ (He.ga _ c) _) ⟨h.cl_Source, h.na_Source_split_lines⟩ (alln)) (qv 0)) (q_fld (allc (P := fun c => Cls _ (He.ga _ c) ∧ NoAttr _ (He.ga _ c) _) ⟨h.cl_Source, h.na_Source_at⟩ (alln)) (qv 0))) q_int))
    (qs_cons (q_drop (q_methA (ok_Source_demand h) h.cl_Source h.me_Source_demand hr (by decide) (takes_of rfl rfl rfl rfl) (qv 0) (qa_cons (q_and (q_cmp (ol_eq (hu64 hr)) (q_callB cl_len rfl h.n_len bt_len (qa_cons (qv 1) qa_nil)) (q_gint rfl h.c_PAIR_glasses)) (q_one (q_callD (ok_is_name h) hr (by decide) rfl (takes_of rfl rfl rfl rfl) (qa_cons (q_ix (il_ix (hu1 hr)) (qv 1) q_int) qa_nil)))) qa_nil)))
    (qs_cons (q_set (i := 2) nd_Source_read_group rfl (Or.inl rfl) (q_ix (il_ix (hu1 hr)) (qv 1) q_int))
    (qs_cons (q_drop (q_methA (ok_Source_demand h) h.cl_Source h.me_Source_demand hr (by decide) (takes_of rfl rfl rfl rfl) (qv 0) (qa_cons (q_or (q_cmp (ol_eq (hu64 hr)) (q_fld (allc (P := fun c => Cls _ (He.ga _ c) ∧ NoAttr _ (He.ga _ c) _) ⟨h.cl_Source, h.na_Source_told_groups⟩ (alln)) (qv 0)) (q_lst qa_nil)) (q_one (q_cmp (ol_lt (hu64 hr)) (q_ix (il_ix (hu1 hr)) (q_ix (il_ix (hu1 hr)) (q_fld (allc (P := fun c => Cls _ (He.ga _ c) ∧ NoAttr _ (He.ga _ c) _) ⟨h.cl_Source, h.na_Source_told_groups⟩ (alln)) (qv 0)) (q_un ul_neg q_int)) q_int) (qv 2)))) qa_nil)))
    (qs_cons (q_drop (q_methA0 (ok_Source_take h) h.cl_Source h.me_Source_take hr (by decide) (takes_of rfl rfl rfl rfl) (qv 0)))
    (qs_cons (q_put (hu1 hr) (q_fld (allc (P := fun c => Cls _ (He.ga _ c) ∧ NoAttr _ (He.ga _ c) _) ⟨h.cl_Source, h.na_Source_opens⟩ (alln)) (qv 0)) (qv 2) (q_methA (ok_Source_read_edge h) h.cl_Source h.me_Source_read_edge hr (by decide) (takes_of rfl rfl rfl rfl) (qv 0) (qa_cons (q_gstr rfl h.c_OPEN) qa_nil)))
    (qs_cons (q_put (hu1 hr) (q_fld (allc (P := fun c => Cls _ (He.ga _ c) ∧ NoAttr _ (He.ga _ c) _) ⟨h.cl_Source, h.na_Source_closes⟩ (alln)) (qv 0)) (qv 2) (q_methA (ok_Source_read_edge h) h.cl_Source h.me_Source_read_edge hr (by decide) (takes_of rfl rfl rfl rfl) (qv 0) (qa_cons (q_gstr rfl h.c_CLOSE) qa_nil)))
    (qs_cons (q_set (i := 3) nd_Source_read_group rfl (Or.inl rfl) (q_lstC qa_nil))
    (qs_cons (q_while 40 (passes_of rfl) (qt_w (qw_or (qt_cmp (ol_eq (hu64 hr)) (qv 3) (q_lst qa_nil)) (qw_or1 (qt_true (q_methA (ok_Source_is_next h) h.cl_Source h.me_Source_is_next hr (by decide) (takes_of rfl rfl rfl rfl) (qv 0) (qa_cons (q_gint rfl h.c_EDGE_DEEP) (qa_cons (q_tup (qa_cons (q_gstr rfl h.c_CHECK) qa_nil)) qa_nil))))))) (qs_one (q_drop (q_bm tyk_list PySem.F.plainAttrs_list PySem.F.slot_list_append PySem.F.type_list_append ml_append (qv 3) (qa_cons (q_methA (ok_Source_read_check h) h.cl_Source h.me_Source_read_check hr (by decide) (takes_of rfl rfl rfl rfl) (qv 0) (qa_cons (qv 3) qa_nil)) qa_nil)))))
    (qs_one (q_drop (q_bm tyk_list PySem.F.plainAttrs_list PySem.F.slot_list_append PySem.F.type_list_append ml_append (q_fld (allc (P := fun c => Cls _ (He.ga _ c) ∧ NoAttr _ (He.ga _ c) _) ⟨h.cl_Source, h.na_Source_told_groups⟩ (alln)) (qv 0)) (qa_cons (q_tup (qa_cons (qv 2) (qa_cons (q_callTy (cl_tupleA rfl) rfl h.n_tuple PyProof.Rows.boot_tuple (qa_cons (q_sortSet rfl rfl h.n_sorted rfl h.n_set (hu64 hr) (q_lc (own := [("check", 4), ("edition", 5)]) lstF_ends (by decide) rfl nd_Source_read_group (qi_val (qv 3)) (blkOk_by (by kernel_rfl)) (fun _ _ _ _ _ => (qg_tup rfl (qgs_cons (qg_name (i := 4) nd_Source_read_group rfl (Or.inl rfl)) (qgs_cons (qg_name (i := 5) nd_Source_read_group rfl (Or.inl rfl)) qgs_nil)))) (fun _ _ _ _ _ => qts_nil) (fun _ _ _ _ _ => (qv 4)))) qa_nil)) qa_nil))) qa_nil))))))))))))))
theorem nd_Source_read_all : (["self"] : List Str).Nodup := by decide +kernel
theorem ok_Source_read_all (h : Fx K mg) : OkM PW HasW.w K mg base 15 "Source" "read_all" 1 m_Source_read_all := OkM.keep (N := ["self"]) (ps := ["self"]) (k := 14) h.d_Source_read_all ⟨rfl, rfl, rfl, nd_Source_read_all, rfl, by decide +kernel, by decide +kernel⟩
  (fun _ _ _ _ _ _ us hl => match us, hl with | [_], _ => rfl) fun fd cdv A outer s H E hr =>
  (qs_cons (q_while 40 (passes_of rfl) (qt_true (q_methA (ok_Source_is_next h) h.cl_Source h.me_Source_is_next hr (by decide) (takes_of rfl rfl rfl rfl) (qv 0) (qa_cons q_int (qa_cons (q_tup (qa_cons (q_gstr rfl h.c_CELL) (qa_cons (q_gstr rfl h.c_SHARED) qa_nil))) qa_nil)))) (qs_one (q_drop (q_methA0 (ok_Source_read_cell h) h.cl_Source h.me_Source_read_cell hr (by decide) (takes_of rfl rfl rfl rfl) (qv 0)))))
    (qs_cons (q_while 40 (passes_of rfl) (qt_w (qw_or (qt_cmp (ol_eq (hu64 hr)) (q_fld (allc (P := fun c => Cls _ (He.ga _ c) ∧ NoAttr _ (He.ga _ c) _) ⟨h.cl_Source, h.na_Source_told_groups⟩ (alln)) (qv 0)) (q_lst qa_nil)) (qw_or1 (qt_true (q_methA (ok_Source_is_next h) h.cl_Source h.me_Source_is_next hr (by decide) (takes_of rfl rfl rfl rfl) (qv 0) (qa_cons q_int (qa_cons (q_tup (qa_cons (q_gstr rfl h.c_GROUP) qa_nil)) qa_nil))))))) (qs_one (q_drop (q_methA0 (ok_Source_read_group h) h.cl_Source h.me_Source_read_group hr (by decide) (takes_of rfl rfl rfl rfl) (qv 0)))))
    (qs_one (q_drop (q_methA (ok_Source_demand h) h.cl_Source h.me_Source_demand hr (by decide) (takes_of rfl rfl rfl rfl) (qv 0) (qa_cons (q_cmp (ol_eq (hu64 hr)) (q_fld (allc (P := fun c => Cls _ (He.ga _ c) ∧ NoAttr _ (He.ga _ c) _) ⟨h.cl_Source, h.na_Source_at⟩ (alln)) (qv 0)) (q_callB cl_len rfl h.n_len bt_len (qa_cons (q_fld (allc (P := fun c => Cls _ (He.ga _ c) ∧ NoAttr _ (He.ga _ c) _) ⟨h.cl_Source, h.na_Source_split_lines⟩ (alln)) (qv 0)) qa_nil))) qa_nil))))))
theorem nd_is_tuple : (["value", "least", "most"] : List Str).Nodup := by decide +kernel
theorem ok_is_tuple (h : Fx K mg) : OkD PW HasW.w K mg base 1 "is_tuple" 3 m_is_tuple := OkD.of (N := ["value", "least", "most"]) (ps := ["value", "least", "most"]) (k := 0) h.d_is_tuple ⟨rfl, rfl, rfl, nd_is_tuple, rfl, by decide +kernel, by decide +kernel⟩
  (fun _ _ _ _ _ _ us hl => match us, hl with | [_, _, _], _ => rfl) fun fd cdv A outer s H E hr =>
  (qs_one (q_ret (q_and (q_isi rfl h.n_isinstance (qv 0) (pe_bltn (v := .ty _) rfl h.n_tuple PyProof.Rows.boot_tuple rfl) (.ty _) isT_tuple) (q_one (q_chain ol_le ol_le (qv 1) (q_callB cl_len rfl h.n_len bt_len (qa_cons (qv 0) qa_nil)) (qv 2))))))
theorem nd_is_ascending : (["some", "one", "other"] : List Str).Nodup := by decide +kernel
theorem ok_is_ascending (h : Fx K mg) : OkD PW HasW.w K mg base 1 "is_ascending" 1 m_is_ascending := OkD.of (N := ["some", "one", "other"]) (ps := ["some"]) (k := 0) h.d_is_ascending ⟨rfl, rfl, rfl, nd_is_ascending, rfl, by decide +kernel, by decide +kernel⟩
  (fun _ _ _ _ _ _ us hl => match us, hl with | [_], _ => rfl) fun fd cdv A outer s H E hr =>
  (qs_one (q_ret (q_callB (cl_all rfl) rfl h.n_all PyProof.Rows.boot_all (qa_cons (q_lc (own := [("one", 1), ("other", 2)]) lstF_ends (by decide) rfl nd_is_ascending (qi_zip rfl h.n_zip (qa_cons (qv 0) (qa_cons (q_slice (qv 0) (qp_some q_int) qp_none) qa_nil))) (blkOk_by (by kernel_rfl)) (fun _ _ _ _ _ => (qg_tup rfl (qgs_cons (qg_name (i := 1) nd_is_ascending rfl (Or.inl rfl)) (qgs_cons (qg_name (i := 2) nd_is_ascending rfl (Or.inl rfl)) qgs_nil)))) (fun _ _ _ _ _ => qts_nil) (fun _ _ _ _ _ => (q_cmp (ol_lt (hu64 hr)) (qv 1) (qv 2)))) qa_nil))))
theorem nd_are_names : (["value", "least", "most", "one"] : List Str).Nodup := by decide +kernel
theorem ok_are_names (h : Fx K mg) : OkD PW HasW.w K mg base 2 "are_names" 3 m_are_names := OkD.of (N := ["value", "least", "most", "one"]) (ps := ["value", "least", "most"]) (k := 1) h.d_are_names ⟨rfl, rfl, rfl, nd_are_names, rfl, by decide +kernel, by decide +kernel⟩
  (fun _ _ _ _ _ _ us hl => match us, hl with | [_, _, _], _ => rfl) fun fd cdv A outer s H E hr =>
  (qs_one (q_ret (q_and (q_callD (ok_is_tuple h) hr (by decide) rfl (takes_of rfl rfl rfl rfl) (qa_cons (qv 0) (qa_cons (qv 1) (qa_cons (qv 2) qa_nil)))) (q_and (q_callB (cl_all rfl) rfl h.n_all PyProof.Rows.boot_all (qa_cons (q_lc (own := [("one", 3)]) lstF_ends (by decide) rfl nd_are_names (qi_val (qv 0)) (blkOk_by (by kernel_rfl)) (fun _ _ _ _ _ => (qg_name (i := 3) nd_are_names rfl (Or.inl rfl))) (fun _ _ _ _ _ => qts_nil) (fun _ _ _ _ _ => (q_callD (ok_is_name h) hr (by decide) rfl takesNo (qa_cons (qv 3) qa_nil)))) qa_nil)) (q_one (q_callD (ok_is_ascending h) hr (by decide) rfl (takes_of rfl rfl rfl rfl) (qa_cons (qv 0) qa_nil)))))))
theorem nd_is_group : (["value"] : List Str).Nodup := by decide +kernel
theorem ok_is_group (h : Fx K mg) : OkD PW HasW.w K mg base 3 "is_group" 1 m_is_group := OkD.of (N := ["value"]) (ps := ["value"]) (k := 2) h.d_is_group ⟨rfl, rfl, rfl, nd_is_group, rfl, by decide +kernel, by decide +kernel⟩
  (fun _ _ _ _ _ _ us hl => match us, hl with | [_], _ => rfl) fun fd cdv A outer s H E hr =>
  (qs_one (q_ret (q_and (q_callD (ok_is_tuple h) hr (by decide) rfl (takes_of rfl rfl rfl rfl) (qa_cons (qv 0) (qa_cons (q_gint rfl h.c_PAIR_shops) (qa_cons (q_gint rfl h.c_PAIR_shops) qa_nil)))) (q_and (q_callD (ok_is_name h) hr (by decide) rfl (takes_of rfl rfl rfl rfl) (qa_cons (q_ix (il_ix (hu1 hr)) (qv 0) q_int) qa_nil)) (q_one (q_callD (ok_are_names h) hr (by decide) rfl (takes_of rfl rfl rfl rfl) (qa_cons (q_ix (il_ix (hu1 hr)) (qv 0) q_int) (qa_cons q_int (qa_cons (q_gint rfl h.c_MOST_IN_A_GROUP) qa_nil)))))))))
theorem nd_are_different : (["some", "place", "one"] : List Str).Nodup := by decide +kernel
theorem ok_are_different (h : Fx K mg) : OkD PW HasW.w K mg base 1 "are_different" 1 m_are_different := OkD.of (N := ["some", "place", "one"]) (ps := ["some"]) (k := 0) h.d_are_different ⟨rfl, rfl, rfl, nd_are_different, rfl, by decide +kernel, by decide +kernel⟩
  (fun _ _ _ _ _ _ us hl => match us, hl with | [_], _ => rfl) fun fd cdv A outer s H E hr =>
  (qs_one (q_ret (q_callB (cl_all rfl) rfl h.n_all PyProof.Rows.boot_all (qa_cons (q_lc (own := [("place", 1), ("one", 2)]) lstF_ends (by decide) rfl nd_are_different (qi_enum rfl h.n_enumerate (qa_cons (qv 0) qa_nil)) (blkOk_by (by kernel_rfl)) (fun _ _ _ _ _ => (qg_tup rfl (qgs_cons (qg_name (i := 1) nd_are_different rfl (Or.inl rfl)) (qgs_cons (qg_name (i := 2) nd_are_different rfl (Or.inl rfl)) qgs_nil)))) (fun _ _ _ _ _ => qts_nil) (fun _ _ _ _ _ => (q_cmp (ol_notIn (hu65 hr)) (qv 2) (q_slice (qv 0) (qp_some (q_op ol_add (qv 1) q_int)) qp_none)))) qa_nil))))
theorem nd_are_groups : (["value", "checks", "one", "group", "some", "check"] : List Str).Nodup := by decide +kernel
theorem ok_are_groups (h : Fx K mg) : OkD PW HasW.w K mg base 4 "are_groups" 1 m_are_groups := OkD.of (N := ["value", "checks", "one", "group", "some", "check"]) (ps := ["value"]) (k := 3) h.d_are_groups ⟨rfl, rfl, rfl, nd_are_groups, rfl, by decide +kernel, by decide +kernel⟩
  (fun _ _ _ _ _ _ us hl => match us, hl with | [_], _ => rfl) fun fd cdv A outer s H E hr =>
  (qs_cons (q_ifS (qt_w (qw_or (qt_not (qt_true (q_callD (ok_is_tuple h) hr (by decide) rfl (takes_of rfl rfl rfl rfl) (qa_cons (qv 0) (qa_cons q_int (qa_cons (q_gint rfl h.c_MOST_GROUPS_shops) qa_nil)))))) (qw_or1 (qt_not (qt_true (q_callB (cl_all rfl) rfl h.n_all PyProof.Rows.boot_all (qa_cons (q_lc (own := [("one", 2)]) lstF_ends (by decide) rfl nd_are_groups (qi_val (qv 0)) (blkOk_by (by kernel_rfl)) (fun _ _ _ _ _ => (qg_name (i := 2) nd_are_groups rfl (Or.inl rfl))) (fun _ _ _ _ _ => qts_nil) (fun _ _ _ _ _ => (q_callD (ok_is_group h) hr (by decide) rfl takesNo (qa_cons (qv 2) qa_nil)))) qa_nil))))))) (qs_one (q_ret q_bl)) qs_nil)
    (qs_cons (q_setLc2 (own := [("group", 3), ("some", 4), ("check", 5)]) (vs1 := [5]) lstF_ends (by decide) (by decide) rfl nd_are_groups rfl rfl (sw_true rfl rfl rfl rfl) (qi_val (qv 0)) (blkOk_by (by kernel_rfl)) (by decide) (fun _ _ _ _ _ => (qg_tup rfl (qgs_cons (qg_name (i := 3) nd_are_groups rfl (Or.inl rfl)) (qgs_cons (qg_name (i := 4) nd_are_groups rfl (Or.inl rfl)) qgs_nil)))) (fun _ _ _ _ _ => qts_nil) (fun _ _ _ _ _ => (qi_val (qv 4))) (fun _ _ _ _ _ => (qg_name (i := 5) nd_are_groups rfl (Or.inl rfl))) (fun _ _ _ _ _ => qts_nil) (fun _ _ _ _ _ => (qv 5)))
    (qs_cons (q_ifS (qt_w (qw_or (qt_not (qt_true (q_callD (ok_is_ascending h) hr (by decide) rfl (takes_of rfl rfl rfl rfl) (qa_cons (q_lc (own := [("group", 3), ("some", 4)]) lstF_ends (by decide) rfl nd_are_groups (qi_val (qv 0)) (blkOk_by (by kernel_rfl)) (fun _ _ _ _ _ => (qg_tup rfl (qgs_cons (qg_name (i := 3) nd_are_groups rfl (Or.inl rfl)) (qgs_cons (qg_name (i := 4) nd_are_groups rfl (Or.inl rfl)) qgs_nil)))) (fun _ _ _ _ _ => qts_nil) (fun _ _ _ _ _ => (qv 3))) qa_nil)))) (qw_or1 (qt_cmp ol_gt (q_callB cl_len rfl h.n_len bt_len (qa_cons (qv 1) qa_nil)) (q_gint rfl h.c_MOST_CHECKS_shops))))) (qs_one (q_ret q_bl)) qs_nil)
    (qs_one (q_ret (q_callD (ok_are_different h) hr (by decide) rfl (takes_of rfl rfl rfl rfl) (qa_cons (q_op ol_add (qv 1) (q_lc (own := [("group", 3), ("some", 4)]) lstF_ends (by decide) rfl nd_are_groups (qi_val (qv 0)) (blkOk_by (by kernel_rfl)) (fun _ _ _ _ _ => (qg_tup rfl (qgs_cons (qg_name (i := 3) nd_are_groups rfl (Or.inl rfl)) (qgs_cons (qg_name (i := 4) nd_are_groups rfl (Or.inl rfl)) qgs_nil)))) (fun _ _ _ _ _ => qts_nil) (fun _ _ _ _ _ => (qv 3)))) qa_nil)))))))
theorem okx_BadShop (h : Fx K mg) : OkX PW HasW.w K mg base 1 "BadShop" := OkX.of (par := "value") h.x_BadShop rfl rfl rfl rfl rfl rfl rfl (by decide) (by decide) rfl rfl rfl (by decide +kernel) (fun _ _ _ => ⟨_, rfl⟩) (fun _ _ _ _ _ _ _ us hl => match us, hl with | [_, _], _ => rfl)
theorem nd_Shop___init__ : (["self", "groups", "group", "checks", "check"] : List Str).Nodup := by decide +kernel
theorem ok_Shop___init__ (h : Fx K mg) : OkM PW HasW.w K mg base 5 "Shop" "__init__" 2 m_Shop___init__ := OkM.keep (N := ["self", "groups", "group", "checks", "check"]) (ps := ["self", "groups"]) (k := 4) h.d_Shop___init__ ⟨rfl, rfl, rfl, nd_Shop___init__, rfl, by decide +kernel, by decide +kernel⟩
  (fun _ _ _ _ _ _ us hl => match us, hl with | [_, _], _ => rfl) fun fd cdv A outer s H E hr =>
  (qs_cons (q_ifS (qt_not (qt_true (q_callD (ok_are_groups h) hr (by decide) rfl (takes_of rfl rfl rfl rfl) (qa_cons (qv 1) qa_nil)))) (qs_one (q_raiseX (okx_BadShop h) rfl (takes_of rfl rfl rfl rfl) hr (by decide) rfl (qa_cons (qv 1) qa_nil))) qs_nil)
    (qs_cons (q_setFld h.cl_Shop h.na_Shop_own_groups (qv 0) (qv 1))
    (qs_one (q_setFld h.cl_Shop h.na_Shop_group_by_check (qv 0) (q_dc2 (own := [("group", 2), ("checks", 3), ("check", 4)]) (vs1 := [4]) dctF_ends (by decide) (by decide) rfl nd_Shop___init__ (qi_val (qv 1)) (blkOk_by (by kernel_rfl)) (by decide) (fun _ _ _ _ _ => (qg_tup rfl (qgs_cons (qg_name (i := 2) nd_Shop___init__ rfl (Or.inl rfl)) (qgs_cons (qg_name (i := 3) nd_Shop___init__ rfl (Or.inl rfl)) qgs_nil)))) (fun _ _ _ _ _ => qts_nil) (fun _ _ _ _ _ => (qi_val (qv 3))) (fun _ _ _ _ _ => (qg_name (i := 4) nd_Shop___init__ rfl (Or.inl rfl))) (fun _ _ _ _ _ => qts_nil) (fun _ _ _ _ _ => (qv 4)) (fun _ _ _ _ _ => (qv 2)))))))
theorem nd_Glass___init__ : (["self", "text"] : List Str).Nodup := by decide +kernel
theorem ok_Glass___init__ (h : Fx K mg) : OkM PW HasW.w K mg base 16 "Glass" "__init__" 2 m_Glass___init__ := OkM.keep (N := ["self", "text"]) (ps := ["self", "text"]) (k := 15) h.d_Glass___init__ ⟨rfl, rfl, rfl, nd_Glass___init__, rfl, by decide +kernel, by decide +kernel⟩
  (fun _ _ _ _ _ _ us hl => match us, hl with | [_, _], _ => rfl) fun fd cdv A outer s H E hr =>
  (qs_cons (q_ifS (qt_not (qt_true (q_isi rfl h.n_isinstance (qv 1) (pe_bltn (v := .ty _) rfl h.n_str PyProof.Rows.boot_str rfl) (.ty _) isT_str))) (qs_one (q_raiseX (okx_BadText h) rfl (takes_of rfl rfl rfl rfl) hr (by decide) rfl (qa_cons q_int qa_nil))) qs_nil)
    (qs_cons (q_setFld h.cl_Glass h.na_Glass_own_text (qv 0) (qv 1))
    (qs_cons (q_setFld h.cl_Glass h.na_Glass_source (qv 0) (q_makeW (ok_Source___init__ h) h.mk_Source hr (by decide) rfl h.g_Source (takes_of rfl rfl rfl rfl) (qa_cons (qv 1) qa_nil)))
    (qs_cons (q_drop (q_methA0 (ok_Source_read_all h) h.cl_Source h.me_Source_read_all hr (by decide) (takes_of rfl rfl rfl rfl) (q_fld (allc (P := fun c => Cls _ (He.ga _ c) ∧ NoAttr _ (He.ga _ c) _) ⟨h.cl_Glass, h.na_Glass_source⟩ (alln)) (qv 0))))
    (qs_one (q_setFld h.cl_Glass h.na_Glass_own_shop (qv 0) (q_makeW (ok_Shop___init__ h) h.mk_Shop hr (by decide) rfl h.g_Shop (takes_of rfl rfl rfl rfl) (qa_cons (q_callTy (cl_tupleA rfl) rfl h.n_tuple PyProof.Rows.boot_tuple (qa_cons (q_fld (allc (P := fun c => Cls _ (He.ga _ c) ∧ NoAttr _ (He.ga _ c) _) ⟨h.cl_Source, h.na_Source_told_groups⟩ (alln)) (q_fld (allc (P := fun c => Cls _ (He.ga _ c) ∧ NoAttr _ (He.ga _ c) _) ⟨h.cl_Glass, h.na_Glass_source⟩ (alln)) (qv 0))) qa_nil)) qa_nil))))))))
theorem nd_is_integer : (["value"] : List Str).Nodup := by decide +kernel
theorem ok_is_integer (h : Fx K mg) : OkD PW HasW.w K mg base 1 "is_integer" 1 m_is_integer := OkD.of (N := ["value"]) (ps := ["value"]) (k := 0) h.d_is_integer ⟨rfl, rfl, rfl, nd_is_integer, rfl, by decide +kernel, by decide +kernel⟩
  (fun _ _ _ _ _ _ us hl => match us, hl with | [_], _ => rfl) fun fd cdv A outer s H E hr =>
  (qs_one (q_ret (q_and (q_isi rfl h.n_isinstance (qv 0) (pe_bltn (v := .ty _) rfl h.n_int PyProof.Rows.boot_int rfl) (.ty _) isT_int) (q_one (q_not (q_isi rfl h.n_isinstance (qv 0) (pe_bltn (v := .ty _) rfl h.n_bool PyProof.Rows.boot_bool rfl) (.ty _) isT_bool))))))
theorem nd_Glass_is_item : (["self", "value"] : List Str).Nodup := by decide +kernel
theorem ok_Glass_is_item (h : Fx K mg) : OkM PW HasW.w K mg base 2 "Glass" "is_item" 2 m_Glass_is_item := OkM.keep (N := ["self", "value"]) (ps := ["self", "value"]) (k := 1) h.d_Glass_is_item ⟨rfl, rfl, rfl, nd_Glass_is_item, rfl, by decide +kernel, by decide +kernel⟩
  (fun _ _ _ _ _ _ us hl => match us, hl with | [_, _], _ => rfl) fun fd cdv A outer s H E hr =>
  (qs_cons (q_ifS (qt_w (qw_or (qt_not (qt_true (q_isi rfl h.n_isinstance (qv 1) (pe_bltn (v := .ty _) rfl h.n_tuple PyProof.Rows.boot_tuple rfl) (.ty _) isT_tuple))) (qw_or (qt_cmp (ol_ne (hu64 hr)) (q_callB cl_len rfl h.n_len bt_len (qa_cons (qv 1) qa_nil)) (q_gint rfl h.c_PAIR_glasses)) (qw_or1 (qt_not (qt_true (q_isi rfl h.n_isinstance (q_ix (il_ix (hu1 hr)) (qv 1) q_int) (pe_bltn (v := .ty _) rfl h.n_str PyProof.Rows.boot_str rfl) (.ty _) isT_str))))))) (qs_one (q_ret q_bl)) qs_nil)
    (qs_one (q_ret (q_and (q_callD (ok_is_integer h) hr (by decide) rfl (takes_of rfl rfl rfl rfl) (qa_cons (q_ix (il_ix (hu1 hr)) (qv 1) q_int) qa_nil)) (q_one (q_cmp (ol_inN0 rfl (hu65 hr)) (qv 1) (q_fld (allc (P := fun c => Cls _ (He.ga _ c) ∧ NoAttr _ (He.ga _ c) _) ⟨h.cl_Source, h.na_Source_told_checks⟩ (alln)) (q_fld (allc (P := fun c => Cls _ (He.ga _ c) ∧ NoAttr _ (He.ga _ c) _) ⟨h.cl_Glass, h.na_Glass_source⟩ (alln)) (qv 0)))))))))
theorem okx_BadOrder (h : Fx K mg) : OkX PW HasW.w K mg base 1 "BadOrder" := OkX.of (par := "value") h.x_BadOrder rfl rfl rfl rfl rfl rfl rfl (by decide) (by decide) rfl rfl rfl (by decide +kernel) (fun _ _ _ => ⟨_, rfl⟩) (fun _ _ _ _ _ _ _ us hl => match us, hl with | [_, _], _ => rfl)
theorem nd_is_between : (["value", "least", "most"] : List Str).Nodup := by decide +kernel
theorem ok_is_between (h : Fx K mg) : OkD PW HasW.w K mg base 2 "is_between" 3 m_is_between := OkD.of (N := ["value", "least", "most"]) (ps := ["value", "least", "most"]) (k := 1) h.d_is_between ⟨rfl, rfl, rfl, nd_is_between, rfl, by decide +kernel, by decide +kernel⟩
  (fun _ _ _ _ _ _ us hl => match us, hl with | [_, _, _], _ => rfl) fun fd cdv A outer s H E hr =>
  (qs_one (q_ret (q_and (q_callD (ok_is_integer h) hr (by decide) rfl (takes_of rfl rfl rfl rfl) (qa_cons (qv 0) qa_nil)) (q_one (q_chain ol_le ol_le (qv 1) (qv 0) (qv 2))))))
theorem okx_BadMany (h : Fx K mg) : OkX PW HasW.w K mg base 1 "BadMany" := OkX.of (par := "value") h.x_BadMany rfl rfl rfl rfl rfl rfl rfl (by decide) (by decide) rfl rfl rfl (by decide +kernel) (fun _ _ _ => ⟨_, rfl⟩) (fun _ _ _ _ _ _ _ us hl => match us, hl with | [_, _], _ => rfl)
theorem nd_Glass_cells : (["self", "shared", "name", "words"] : List Str).Nodup := by decide +kernel
theorem ok_Glass_cells (h : Fx K mg) : OkP PW HasW.w K mg base 1 "Glass" "cells" m_Glass_cells := OkP.keep (N := ["self", "shared", "name", "words"]) (ps := ["self"]) (k := 0) h.d_Glass_cells ⟨rfl, rfl, rfl, nd_Glass_cells, rfl, by decide +kernel, by decide +kernel⟩ rfl
  (fun _ _ _ _ _ _ us hl => match us, hl with | [_], _ => rfl) fun fd cdv A outer s H E hr =>
  (qs_cons (q_set (i := 1) nd_Glass_cells rfl (Or.inr rfl) (q_fld (allc (P := fun c => Cls _ (He.ga _ c) ∧ NoAttr _ (He.ga _ c) _) ⟨h.cl_Source, h.na_Source_shared_names⟩ (alln)) (q_fld (allc (P := fun c => Cls _ (He.ga _ c) ∧ NoAttr _ (He.ga _ c) _) ⟨h.cl_Glass, h.na_Glass_source⟩ (alln)) (qv 0))))
    (qs_one (q_ret (q_callTy (cl_tupleA rfl) rfl h.n_tuple PyProof.Rows.boot_tuple (qa_cons (q_lcP (own := [("name", 2), ("words", 3)]) lstF_ends okF_lst (dp_items h.cl_Glass h.na_Glass_source h.cl_Source h.na_Source_words_of) (by decide) rfl nd_Glass_cells (blkOk_by (by kernel_rfl)) (fun _ _ _ _ _ => (qg_tup rfl (qgs_cons (qg_name (i := 2) nd_Glass_cells rfl (Or.inl rfl)) (qgs_cons (qg_name (i := 3) nd_Glass_cells rfl (Or.inl rfl)) qgs_nil)))) (fun _ _ _ _ _ => qts_nil) (fun _ _ _ _ _ => (q_tup (qa_cons (qv 2) (qa_cons (qv 3) (qa_cons (q_cmp (ol_in (hu65 hr)) (qv 2) (qv 1)) qa_nil)))))) qa_nil)))))
theorem nd_Glass_names_of : (["self", "is_shared", "name", "words", "is_one"] : List Str).Nodup := by decide +kernel
theorem ok_Glass_names_of (h : Fx K mg) : OkM PW HasW.w K mg base 3 "Glass" "names_of" 2 m_Glass_names_of := OkM.keep (N := ["self", "is_shared", "name", "words", "is_one"]) (ps := ["self", "is_shared"]) (k := 2) h.d_Glass_names_of ⟨rfl, rfl, rfl, nd_Glass_names_of, rfl, by decide +kernel, by decide +kernel⟩
  (fun _ _ _ _ _ _ us hl => match us, hl with | [_, _], _ => rfl) fun fd cdv A outer s H E hr =>
  (qs_one (q_ret (q_lc (own := [("name", 2), ("words", 3), ("is_one", 4)]) lstF_ends (by decide) rfl nd_Glass_names_of (qi_val (q_prop (ok_Glass_cells h) h.cl_Glass h.pr_Glass_cells hr (by decide) (qv 0))) (blkOk_by (by kernel_rfl)) (fun _ _ _ _ _ => (qg_tup rfl (qgs_cons (qg_name (i := 2) nd_Glass_names_of rfl (Or.inl rfl)) (qgs_cons (qg_name (i := 3) nd_Glass_names_of rfl (Or.inl rfl)) (qgs_cons (qg_name (i := 4) nd_Glass_names_of rfl (Or.inl rfl)) qgs_nil))))) (fun _ _ _ _ _ => (qts_one (qt_cmp (ol_eq (hu64 hr)) (qv 4) (qv 1)))) (fun _ _ _ _ _ => (qv 2)))))
theorem nd_Glass_first_words : (["self", "is_shared", "name"] : List Str).Nodup := by decide +kernel
theorem ok_Glass_first_words (h : Fx K mg) : OkM PW HasW.w K mg base 4 "Glass" "first_words" 2 m_Glass_first_words := OkM.keep (N := ["self", "is_shared", "name"]) (ps := ["self", "is_shared"]) (k := 3) h.d_Glass_first_words ⟨rfl, rfl, rfl, nd_Glass_first_words, rfl, by decide +kernel, by decide +kernel⟩
  (fun _ _ _ _ _ _ us hl => match us, hl with | [_, _], _ => rfl) fun fd cdv A outer s H E hr =>
  (qs_one (q_ret (q_callTy (cl_tupleA rfl) rfl h.n_tuple PyProof.Rows.boot_tuple (qa_cons (q_lc (own := [("name", 2)]) lstF_ends (by decide) rfl nd_Glass_first_words (qi_val (q_methA (ok_Glass_names_of h) h.cl_Glass h.me_Glass_names_of hr (by decide) (takes_of rfl rfl rfl rfl) (qv 0) (qa_cons (qv 1) qa_nil))) (blkOk_by (by kernel_rfl)) (fun _ _ _ _ _ => (qg_name (i := 2) nd_Glass_first_words rfl (Or.inl rfl))) (fun _ _ _ _ _ => qts_nil) (fun _ _ _ _ _ => (q_ix (il_ix (hu1 hr)) (q_ix (il_ix (hu1 hr)) (q_fld (allc (P := fun c => Cls _ (He.ga _ c) ∧ NoAttr _ (He.ga _ c) _) ⟨h.cl_Source, h.na_Source_words_of⟩ (alln)) (q_fld (allc (P := fun c => Cls _ (He.ga _ c) ∧ NoAttr _ (He.ga _ c) _) ⟨h.cl_Glass, h.na_Glass_source⟩ (alln)) (qv 0))) (qv 2)) q_int))) qa_nil))))
theorem nd_Glass_start : (["self", "many"] : List Str).Nodup := by decide +kernel
theorem ok_Glass_start (h : Fx K mg) : OkM PW HasW.w K mg base 5 "Glass" "start" 2 m_Glass_start := OkM.keep (N := ["self", "many"]) (ps := ["self", "many"]) (k := 4) h.d_Glass_start ⟨rfl, rfl, rfl, nd_Glass_start, rfl, by decide +kernel, by decide +kernel⟩
  (fun _ _ _ _ _ _ us hl => match us, hl with | [_, _], _ => rfl) fun fd cdv A outer s H E hr =>
  (qs_cons (q_ifS (qt_not (qt_true (q_callD (ok_is_between h) hr (by decide) rfl (takes_of rfl rfl rfl rfl) (qa_cons (qv 1) (qa_cons q_int (qa_cons (q_gint rfl h.c_MOST_WORKERS) qa_nil)))))) (qs_one (q_raiseX (okx_BadMany h) rfl (takes_of rfl rfl rfl rfl) hr (by decide) rfl (qa_cons (qv 1) qa_nil))) qs_nil)
    (qs_one (q_ret (q_tup (qa_cons (q_op ol_mulT (q_tup (qa_cons (q_tup (qa_cons (q_gstr rfl h.c_NO_GROUP) (qa_cons (q_methA (ok_Glass_first_words h) h.cl_Glass h.me_Glass_first_words hr (by decide) (takes_of rfl rfl rfl rfl) (qv 0) (qa_cons q_bl qa_nil)) qa_nil))) qa_nil)) (qv 1)) (qa_cons (q_methA (ok_Glass_first_words h) h.cl_Glass h.me_Glass_first_words hr (by decide) (takes_of rfl rfl rfl rfl) (qv 0) (qa_cons q_bl qa_nil)) qa_nil))))))
theorem okx_NoWorker (h : Fx K mg) : OkX PW HasW.w K mg base 1 "NoWorker" := OkX.of (par := "value") h.x_NoWorker rfl rfl rfl rfl rfl rfl rfl (by decide) (by decide) rfl rfl rfl (by decide +kernel) (fun _ _ _ => ⟨_, rfl⟩) (fun _ _ _ _ _ _ _ us hl => match us, hl with | [_, _], _ => rfl)
theorem nd_Glass_check_worker : (["self", "state", "number"] : List Str).Nodup := by decide +kernel
theorem ok_Glass_check_worker (h : Fx K mg) : OkM PW HasW.w K mg base 3 "Glass" "check_worker" 3 m_Glass_check_worker := OkM.keep (N := ["self", "state", "number"]) (ps := ["self", "state", "number"]) (k := 2) h.d_Glass_check_worker ⟨rfl, rfl, rfl, nd_Glass_check_worker, rfl, by decide +kernel, by decide +kernel⟩
  (fun _ _ _ _ _ _ us hl => match us, hl with | [_, _, _], _ => rfl) fun fd cdv A outer s H E hr =>
  (qs_one (q_ifS (qt_not (qt_true (q_callD (ok_is_between h) hr (by decide) rfl (takes_of rfl rfl rfl rfl) (qa_cons (qv 2) (qa_cons q_int (qa_cons (q_op ol_sub (q_callB cl_len rfl h.n_len bt_len (qa_cons (q_ix (il_ix (hu1 hr)) (qv 1) q_int) qa_nil)) q_int) qa_nil)))))) (qs_one (q_raiseX (okx_NoWorker h) rfl (takes_of rfl rfl rfl rfl) hr (by decide) rfl (qa_cons (qv 2) qa_nil))) qs_nil))
theorem okx_NoItem (h : Fx K mg) : OkX PW HasW.w K mg base 1 "NoItem" := OkX.of (par := "value") h.x_NoItem rfl rfl rfl rfl rfl rfl rfl (by decide) (by decide) rfl rfl rfl (by decide +kernel) (fun _ _ _ => ⟨_, rfl⟩) (fun _ _ _ _ _ _ _ us hl => match us, hl with | [_, _], _ => rfl)
theorem nd_is_word : (["value", "words"] : List Str).Nodup := by decide +kernel
theorem ok_is_word (h : Fx K mg) : OkD PW HasW.w K mg base 1 "is_word" 2 m_is_word := OkD.of (N := ["value", "words"]) (ps := ["value", "words"]) (k := 0) h.d_is_word ⟨rfl, rfl, rfl, nd_is_word, rfl, by decide +kernel, by decide +kernel⟩
  (fun _ _ _ _ _ _ us hl => match us, hl with | [_, _], _ => rfl) fun fd cdv A outer s H E hr =>
  (qs_one (q_ret (q_and (q_isi rfl h.n_isinstance (qv 0) (pe_bltn (v := .ty _) rfl h.n_str PyProof.Rows.boot_str rfl) (.ty _) isT_str) (q_one (q_cmp (ol_in (hu65 hr)) (qv 0) (qv 1))))))
theorem okx_NoCheck (h : Fx K mg) : OkX PW HasW.w K mg base 1 "NoCheck" := OkX.of (par := "value") h.x_NoCheck rfl rfl rfl rfl rfl rfl rfl (by decide) (by decide) rfl rfl rfl (by decide +kernel) (fun _ _ _ => ⟨_, rfl⟩) (fun _ _ _ _ _ _ _ us hl => match us, hl with | [_, _], _ => rfl)
theorem nd_Shop_group_of : (["self", "check"] : List Str).Nodup := by decide +kernel
theorem ok_Shop_group_of (h : Fx K mg) : OkM PW HasW.w K mg base 3 "Shop" "group_of" 2 m_Shop_group_of := OkM.keep (N := ["self", "check"]) (ps := ["self", "check"]) (k := 2) h.d_Shop_group_of ⟨rfl, rfl, rfl, nd_Shop_group_of, rfl, by decide +kernel, by decide +kernel⟩
  (fun _ _ _ _ _ _ us hl => match us, hl with | [_, _], _ => rfl) fun fd cdv A outer s H E hr =>
  (qs_cons (q_ifS (qt_not (qt_true (q_callD (ok_is_word h) hr (by decide) rfl (takes_of rfl rfl rfl rfl) (qa_cons (qv 1) (qa_cons (q_callTy (cl_tupleA rfl) rfl h.n_tuple PyProof.Rows.boot_tuple (qa_cons (q_fld (allc (P := fun c => Cls _ (He.ga _ c) ∧ NoAttr _ (He.ga _ c) _) ⟨h.cl_Shop, h.na_Shop_group_by_check⟩ (alln)) (qv 0)) qa_nil)) qa_nil))))) (qs_one (q_raiseX (okx_NoCheck h) rfl (takes_of rfl rfl rfl rfl) hr (by decide) rfl (qa_cons (qv 1) qa_nil))) qs_nil)
    (qs_one (q_ret (q_ix (il_ix (hu1 hr)) (q_fld (allc (P := fun c => Cls _ (He.ga _ c) ∧ NoAttr _ (He.ga _ c) _) ⟨h.cl_Shop, h.na_Shop_group_by_check⟩ (alln)) (qv 0)) (qv 1)))))
theorem nd_fails_1 : (["commands", "words", "command", "word", "cell"] : List Str).Nodup := by decide +kernel
theorem ok_fails_1 (h : Fx K mg) : OkD PW HasW.w K mg base 1 "fails" 2 m_fails_1 := OkD.of (N := ["commands", "words", "command", "word", "cell"]) (ps := ["commands", "words"]) (k := 0) h.d_fails ⟨rfl, rfl, rfl, nd_fails_1, rfl, by decide +kernel, by decide +kernel⟩
  (fun _ _ _ _ _ _ us hl => match us, hl with | [_, _], _ => rfl) fun fd cdv A outer s H E hr =>
  (qs_cons (q_for (passes_of rfl) rfl (qi_val (qv 0)) (qg_name (i := 2) nd_fails_1 rfl (Or.inl rfl)) (qs_cons (q_ifS (qt_cmp (ol_eq (hu64 hr)) (q_ix (il_ix (hu1 hr)) (qv 2) q_int) (q_gstr rfl h.c_FAIL)) (qs_one (q_ret q_bl)) qs_nil)
    (qs_cons (q_asg (q_slice (qv 2) qp_none (qp_some (q_gint rfl h.c_PAIR_glasses))) (qg_tup rfl (qgs_cons (qg_name (i := 3) nd_fails_1 rfl (Or.inl rfl)) (qgs_cons (qg_name (i := 4) nd_fails_1 rfl (Or.inl rfl)) qgs_nil))))
    (qs_one (q_ifS (qt_cmp (ol_eq (hu64 hr)) (qv 3) (q_gstr rfl h.c_SET)) (qs_one (q_put (hu1 hr) (qv 1) (qv 4) (q_ix (il_ix (hu1 hr)) (qv 2) q_int))) (qs_one (q_ifS (qt_cmp (ol_eq (hu64 hr)) (qv 3) (q_gstr rfl h.c_COPY)) (qs_one (q_put (hu1 hr) (qv 1) (q_ix (il_ix (hu1 hr)) (qv 2) q_int) (q_ix (il_ix (hu1 hr)) (qv 1) (qv 4)))) (qs_one (q_ifS (qt_cmp (ol_eq (hu64 hr)) (qv 3) (q_gstr rfl h.c_IF)) (qs_one (q_ifS (qt_true qe_dead) (qs_one (q_ret q_bl)) qs_nil)) (qs_one (q_ifS (qt_cmp (ol_ne (hu64 hr)) (q_ix (il_ix (hu1 hr)) (qv 1) (qv 4)) (q_ix (il_ix (hu1 hr)) (qv 2) q_int)) (qs_one (q_ret q_bl)) qs_nil)))))))))))
    (qs_one (q_ret q_bl)))
theorem nd_fails_2 : (["commands", "words", "command", "word", "cell"] : List Str).Nodup := by decide +kernel
theorem ok_fails_2 (h : Fx K mg) : OkD PW HasW.w K mg base 2 "fails" 2 m_fails_2 := OkD.of (N := ["commands", "words", "command", "word", "cell"]) (ps := ["commands", "words"]) (k := 1) h.d_fails ⟨rfl, rfl, rfl, nd_fails_2, rfl, by decide +kernel, by decide +kernel⟩
  (fun _ _ _ _ _ _ us hl => match us, hl with | [_, _], _ => rfl) fun fd cdv A outer s H E hr =>
  (qs_cons (q_for (passes_of rfl) rfl (qi_val (qv 0)) (qg_name (i := 2) nd_fails_2 rfl (Or.inl rfl)) (qs_cons (q_ifS (qt_cmp (ol_eq (hu64 hr)) (q_ix (il_ix (hu1 hr)) (qv 2) q_int) (q_gstr rfl h.c_FAIL)) (qs_one (q_ret q_bl)) qs_nil)
    (qs_cons (q_asg (q_slice (qv 2) qp_none (qp_some (q_gint rfl h.c_PAIR_glasses))) (qg_tup rfl (qgs_cons (qg_name (i := 3) nd_fails_2 rfl (Or.inl rfl)) (qgs_cons (qg_name (i := 4) nd_fails_2 rfl (Or.inl rfl)) qgs_nil))))
    (qs_one (q_ifS (qt_cmp (ol_eq (hu64 hr)) (qv 3) (q_gstr rfl h.c_SET)) (qs_one (q_put (hu1 hr) (qv 1) (qv 4) (q_ix (il_ix (hu1 hr)) (qv 2) q_int))) (qs_one (q_ifS (qt_cmp (ol_eq (hu64 hr)) (qv 3) (q_gstr rfl h.c_COPY)) (qs_one (q_put (hu1 hr) (qv 1) (q_ix (il_ix (hu1 hr)) (qv 2) q_int) (q_ix (il_ix (hu1 hr)) (qv 1) (qv 4)))) (qs_one (q_ifS (qt_cmp (ol_eq (hu64 hr)) (qv 3) (q_gstr rfl h.c_IF)) (qs_one (q_ifS (qt_true (q_callD (ok_fails_1 h) hr (by decide) rfl (takes_of rfl rfl rfl rfl) (qa_cons (q_if (qt_cmp (ol_eq (hu64 hr)) (q_ix (il_ix (hu1 hr)) (qv 1) (qv 4)) (q_ix (il_ix (hu1 hr)) (qv 2) q_int)) (q_ix (il_ix (hu1 hr)) (qv 2) q_int) (q_ix (il_ix (hu1 hr)) (qv 2) q_int)) (qa_cons (qv 1) qa_nil)))) (qs_one (q_ret q_bl)) qs_nil)) (qs_one (q_ifS (qt_cmp (ol_ne (hu64 hr)) (q_ix (il_ix (hu1 hr)) (qv 1) (qv 4)) (q_ix (il_ix (hu1 hr)) (qv 2) q_int)) (qs_one (q_ret q_bl)) qs_nil)))))))))))
    (qs_one (q_ret q_bl)))
theorem nd_fails_3 : (["commands", "words", "command", "word", "cell"] : List Str).Nodup := by decide +kernel
theorem ok_fails_3 (h : Fx K mg) : OkD PW HasW.w K mg base 3 "fails" 2 m_fails_3 := OkD.of (N := ["commands", "words", "command", "word", "cell"]) (ps := ["commands", "words"]) (k := 2) h.d_fails ⟨rfl, rfl, rfl, nd_fails_3, rfl, by decide +kernel, by decide +kernel⟩
  (fun _ _ _ _ _ _ us hl => match us, hl with | [_, _], _ => rfl) fun fd cdv A outer s H E hr =>
  (qs_cons (q_for (passes_of rfl) rfl (qi_val (qv 0)) (qg_name (i := 2) nd_fails_3 rfl (Or.inl rfl)) (qs_cons (q_ifS (qt_cmp (ol_eq (hu64 hr)) (q_ix (il_ix (hu1 hr)) (qv 2) q_int) (q_gstr rfl h.c_FAIL)) (qs_one (q_ret q_bl)) qs_nil)
    (qs_cons (q_asg (q_slice (qv 2) qp_none (qp_some (q_gint rfl h.c_PAIR_glasses))) (qg_tup rfl (qgs_cons (qg_name (i := 3) nd_fails_3 rfl (Or.inl rfl)) (qgs_cons (qg_name (i := 4) nd_fails_3 rfl (Or.inl rfl)) qgs_nil))))
    (qs_one (q_ifS (qt_cmp (ol_eq (hu64 hr)) (qv 3) (q_gstr rfl h.c_SET)) (qs_one (q_put (hu1 hr) (qv 1) (qv 4) (q_ix (il_ix (hu1 hr)) (qv 2) q_int))) (qs_one (q_ifS (qt_cmp (ol_eq (hu64 hr)) (qv 3) (q_gstr rfl h.c_COPY)) (qs_one (q_put (hu1 hr) (qv 1) (q_ix (il_ix (hu1 hr)) (qv 2) q_int) (q_ix (il_ix (hu1 hr)) (qv 1) (qv 4)))) (qs_one (q_ifS (qt_cmp (ol_eq (hu64 hr)) (qv 3) (q_gstr rfl h.c_IF)) (qs_one (q_ifS (qt_true (q_callD (ok_fails_2 h) hr (by decide) rfl (takes_of rfl rfl rfl rfl) (qa_cons (q_if (qt_cmp (ol_eq (hu64 hr)) (q_ix (il_ix (hu1 hr)) (qv 1) (qv 4)) (q_ix (il_ix (hu1 hr)) (qv 2) q_int)) (q_ix (il_ix (hu1 hr)) (qv 2) q_int) (q_ix (il_ix (hu1 hr)) (qv 2) q_int)) (qa_cons (qv 1) qa_nil)))) (qs_one (q_ret q_bl)) qs_nil)) (qs_one (q_ifS (qt_cmp (ol_ne (hu64 hr)) (q_ix (il_ix (hu1 hr)) (qv 1) (qv 4)) (q_ix (il_ix (hu1 hr)) (qv 2) q_int)) (qs_one (q_ret q_bl)) qs_nil)))))))))))
    (qs_one (q_ret q_bl)))
theorem nd_Glass_run_on : (["self", "words", "group", "item", "goal"] : List Str).Nodup := by decide +kernel
theorem ok_Glass_run_on (h : Fx K mg) : OkM PW HasW.w K mg base 4 "Glass" "run_on" 4 m_Glass_run_on := OkM.keep (N := ["self", "words", "group", "item", "goal"]) (ps := ["self", "words", "group", "item"]) (k := 3) h.d_Glass_run_on ⟨rfl, rfl, rfl, nd_Glass_run_on, rfl, by decide +kernel, by decide +kernel⟩
  (fun _ _ _ _ _ _ us hl => match us, hl with | [_, _, _, _], _ => rfl) fun fd cdv A outer s H E hr =>
  (qs_cons (q_set (i := 4) nd_Glass_run_on rfl (Or.inl rfl) (q_methA (ok_Shop_group_of h) h.cl_Shop h.me_Shop_group_of hr (by decide) (takes_of rfl rfl rfl rfl) (q_fld (allc (P := fun c => Cls _ (He.ga _ c) ∧ NoAttr _ (He.ga _ c) _) ⟨h.cl_Glass, h.na_Glass_own_shop⟩ (alln)) (qv 0)) (qa_cons (q_ix (il_ix (hu1 hr)) (qv 3) q_int) qa_nil)))
    (qs_cons (q_ifS (qt_cmp (ol_ne (hu64 hr)) (qv 2) (qv 4)) (qs_cons (q_ifS (qt_cmp (ol_ne (hu64 hr)) (qv 2) (q_gstr rfl h.c_NO_GROUP)) (qs_one (q_drop (q_callD (ok_fails_3 h) hr (by decide) rfl (takes_of rfl rfl rfl rfl) (qa_cons (q_ix (il_ix (hu1 hr)) (q_fld (allc (P := fun c => Cls _ (He.ga _ c) ∧ NoAttr _ (He.ga _ c) _) ⟨h.cl_Source, h.na_Source_closes⟩ (alln)) (q_fld (allc (P := fun c => Cls _ (He.ga _ c) ∧ NoAttr _ (He.ga _ c) _) ⟨h.cl_Glass, h.na_Glass_source⟩ (alln)) (qv 0))) (qv 2)) (qa_cons (qv 1) qa_nil))))) qs_nil)
    (qs_one (q_ifS (qt_true (q_callD (ok_fails_3 h) hr (by decide) rfl (takes_of rfl rfl rfl rfl) (qa_cons (q_ix (il_ix (hu1 hr)) (q_fld (allc (P := fun c => Cls _ (He.ga _ c) ∧ NoAttr _ (He.ga _ c) _) ⟨h.cl_Source, h.na_Source_opens⟩ (alln)) (q_fld (allc (P := fun c => Cls _ (He.ga _ c) ∧ NoAttr _ (He.ga _ c) _) ⟨h.cl_Glass, h.na_Glass_source⟩ (alln)) (qv 0))) (qv 4)) (qa_cons (qv 1) qa_nil)))) (qs_one (q_ret (q_tup (qa_cons (q_gstr rfl h.c_SKIP) (qa_cons (q_gstr rfl h.c_NO_GROUP) qa_nil))))) qs_nil))) qs_nil)
    (qs_one (q_ret (q_tup (qa_cons (q_if (qt_true (q_callD (ok_fails_3 h) hr (by decide) rfl (takes_of rfl rfl rfl rfl) (qa_cons (q_ix (il_ixN rfl (hu65 hr)) (q_fld (allc (P := fun c => Cls _ (He.ga _ c) ∧ NoAttr _ (He.ga _ c) _) ⟨h.cl_Source, h.na_Source_told_checks⟩ (alln)) (q_fld (allc (P := fun c => Cls _ (He.ga _ c) ∧ NoAttr _ (He.ga _ c) _) ⟨h.cl_Glass, h.na_Glass_source⟩ (alln)) (qv 0))) (qv 3)) (qa_cons (qv 1) qa_nil)))) (q_gstr rfl h.c_FAIL) (q_gstr rfl h.c_PASS)) (qa_cons (qv 4) qa_nil)))))))
theorem nd_Glass_after : (["self", "state", "number", "item", "rows", "store", "own", "shared", "words", "outcome", "group", "row", "behind", "name"] : List Str).Nodup := by decide +kernel
theorem ok_Glass_after (h : Fx K mg) : OkM PW HasW.w K mg base 5 "Glass" "after" 4 m_Glass_after := OkM.keep (N := ["self", "state", "number", "item", "rows", "store", "own", "shared", "words", "outcome", "group", "row", "behind", "name"]) (ps := ["self", "state", "number", "item"]) (k := 4) h.d_Glass_after ⟨rfl, rfl, rfl, nd_Glass_after, rfl, by decide +kernel, by decide +kernel⟩
  (fun _ _ _ _ _ _ us hl => match us, hl with | [_, _, _, _], _ => rfl) fun fd cdv A outer s H E hr =>
  (qs_cons (q_drop (q_methA (ok_Glass_check_worker h) h.cl_Glass h.me_Glass_check_worker hr (by decide) (takes_of rfl rfl rfl rfl) (qv 0) (qa_cons (qv 1) (qa_cons (qv 2) qa_nil))))
    (qs_cons (q_ifS (qt_not (qt_true (q_methA (ok_Glass_is_item h) h.cl_Glass h.me_Glass_is_item hr (by decide) (takes_of rfl rfl rfl rfl) (qv 0) (qa_cons (qv 3) qa_nil)))) (qs_one (q_raiseX (okx_NoItem h) rfl (takes_of rfl rfl rfl rfl) hr (by decide) rfl (qa_cons (qv 3) qa_nil))) qs_nil)
    (qs_cons (q_asg (qv 1) (qg_tup rfl (qgs_cons (qg_name (i := 4) nd_Glass_after rfl (Or.inl rfl)) (qgs_cons (qg_name (i := 5) nd_Glass_after rfl (Or.inl rfl)) qgs_nil))))
    (qs_cons (q_par2 (i := 6) (j := 7) rfl nd_Glass_after rfl rfl (by decide) rfl rfl (qa_cons (q_methA (ok_Glass_names_of h) h.cl_Glass h.me_Glass_names_of hr (by decide) (takes_of rfl rfl rfl rfl) (qv 0) (qa_cons q_bl qa_nil)) (qa_cons (q_methA (ok_Glass_names_of h) h.cl_Glass h.me_Glass_names_of hr (by decide) (takes_of rfl rfl rfl rfl) (qv 0) (qa_cons q_bl qa_nil)) qa_nil)))
    (qs_cons (q_set (i := 8) nd_Glass_after rfl (Or.inr rfl) (q_callTy (cl_dictC rfl) rfl h.n_dict PyProof.Rows.boot_dict (qa_cons (q_lst (qa_starZ rfl rfl h.n_zip (qa_cons (qv 6) (qa_cons (q_ix (il_ix (hu1 hr)) (q_ix (il_ix (hu1 hr)) (qv 4) (qv 2)) q_int) qa_nil)) (qa_starZ rfl rfl h.n_zip (qa_cons (qv 7) (qa_cons (qv 5) qa_nil)) qa_nil))) qa_nil)))
    (qs_cons (q_asg (q_methA (ok_Glass_run_on h) h.cl_Glass h.me_Glass_run_on hr (by decide) (takes_of rfl rfl rfl rfl) (qv 0) (qa_cons (qv 8) (qa_cons (q_ix (il_ix (hu1 hr)) (q_ix (il_ix (hu1 hr)) (qv 4) (qv 2)) q_int) (qa_cons (qv 3) qa_nil)))) (qg_tup rfl (qgs_cons (qg_name (i := 9) nd_Glass_after rfl (Or.inl rfl)) (qgs_cons (qg_name (i := 10) nd_Glass_after rfl (Or.inl rfl)) qgs_nil))))
    (qs_cons (q_set (i := 11) nd_Glass_after rfl (Or.inl rfl) (q_tup (qa_cons (qv 10) (qa_cons (q_callTy (cl_tupleA rfl) rfl h.n_tuple PyProof.Rows.boot_tuple (qa_cons (q_lc (own := [("name", 13)]) lstF_ends (by decide) rfl nd_Glass_after (qi_val (qv 6)) (blkOk_by (by kernel_rfl)) (fun _ _ _ _ _ => (qg_name (i := 13) nd_Glass_after rfl (Or.inl rfl))) (fun _ _ _ _ _ => qts_nil) (fun _ _ _ _ _ => (q_ix (il_ix (hu1 hr)) (qv 8) (qv 13)))) qa_nil)) qa_nil))))
    (qs_cons (q_set (i := 12) nd_Glass_after rfl (Or.inl rfl) (q_tup (qa_star (q_slice (qv 4) qp_none (qp_some (qv 2))) (qa_cons (qv 11) (qa_star (q_slice (qv 4) (qp_some (q_op ol_add (qv 2) q_int)) qp_none) qa_nil)))))
    (qs_one (q_ret (q_tup (qa_cons (qv 9) (qa_cons (q_tup (qa_cons (qv 12) (qa_cons (q_callTy (cl_tupleA rfl) rfl h.n_tuple PyProof.Rows.boot_tuple (qa_cons (q_lc (own := [("name", 13)]) lstF_ends (by decide) rfl nd_Glass_after (qi_val (qv 7)) (blkOk_by (by kernel_rfl)) (fun _ _ _ _ _ => (qg_name (i := 13) nd_Glass_after rfl (Or.inl rfl))) (fun _ _ _ _ _ => qts_nil) (fun _ _ _ _ _ => (q_ix (il_ix (hu1 hr)) (qv 8) (qv 13)))) qa_nil)) qa_nil))) qa_nil)))))))))))))
theorem nd_Glass_outcomes : (["self", "order", "state", "found", "item", "outcome"] : List Str).Nodup := by decide +kernel
theorem ok_Glass_outcomes (h : Fx K mg) : OkM PW HasW.w K mg base 6 "Glass" "outcomes" 2 m_Glass_outcomes := OkM.keep (N := ["self", "order", "state", "found", "item", "outcome"]) (ps := ["self", "order"]) (k := 5) h.d_Glass_outcomes ⟨rfl, rfl, rfl, nd_Glass_outcomes, rfl, by decide +kernel, by decide +kernel⟩
  (fun _ _ _ _ _ _ us hl => match us, hl with | [_, _], _ => rfl) fun fd cdv A outer s H E hr =>
  (qs_cons (q_ifS (qt_w (qw_or (qt_not (qt_true (q_isi rfl h.n_isinstance (qv 1) (pe_bltn (v := .ty _) rfl h.n_tuple PyProof.Rows.boot_tuple rfl) (.ty _) isT_tuple))) (qw_or (qt_cmp ol_gt (q_callB cl_len rfl h.n_len bt_len (qa_cons (qv 1) qa_nil)) (q_gint rfl h.c_MOST_RUNS)) (qw_or1 (qt_not (qt_true (q_callB (cl_all rfl) rfl h.n_all PyProof.Rows.boot_all (qa_cons (q_lc (own := [("item", 4)]) lstF_ends (by decide) rfl nd_Glass_outcomes (qi_val (qv 1)) (blkOk_by (by kernel_rfl)) (fun _ _ _ _ _ => (qg_name (i := 4) nd_Glass_outcomes rfl (Or.inl rfl))) (fun _ _ _ _ _ => qts_nil) (fun _ _ _ _ _ => (q_methA (ok_Glass_is_item h) h.cl_Glass h.me_Glass_is_item hr (by decide) takesNo (qv 0) (qa_cons (qv 4) qa_nil)))) qa_nil)))))))) (qs_one (q_raiseX (okx_BadOrder h) rfl (takes_of rfl rfl rfl rfl) hr (by decide) rfl (qa_cons (qv 1) qa_nil))) qs_nil)
    (qs_cons (q_par2 (i := 2) (j := 3) rfl nd_Glass_outcomes rfl rfl (by decide) rfl rfl (qa_cons (q_methA (ok_Glass_start h) h.cl_Glass h.me_Glass_start hr (by decide) (takes_of rfl rfl rfl rfl) (qv 0) (qa_cons q_int qa_nil)) (qa_cons (q_lstC qa_nil) qa_nil)))
    (qs_cons (q_for (passes_of rfl) rfl (qi_val (qv 1)) (qg_name (i := 4) nd_Glass_outcomes rfl (Or.inl rfl)) (qs_cons (q_asg (q_methA (ok_Glass_after h) h.cl_Glass h.me_Glass_after hr (by decide) (takes_of rfl rfl rfl rfl) (qv 0) (qa_cons (qv 2) (qa_cons q_int (qa_cons (qv 4) qa_nil)))) (qg_tup rfl (qgs_cons (qg_name (i := 5) nd_Glass_outcomes rfl (Or.inl rfl)) (qgs_cons (qg_name (i := 2) nd_Glass_outcomes rfl (Or.inl rfl)) qgs_nil))))
    (qs_one (q_drop (q_bm tyk_list PySem.F.plainAttrs_list PySem.F.slot_list_append PySem.F.type_list_append ml_append (qv 3) (qa_cons (qv 5) qa_nil))))))
    (qs_one (q_ret (q_callTy (cl_tupleA rfl) rfl h.n_tuple PyProof.Rows.boot_tuple (qa_cons (qv 3) qa_nil)))))))
theorem nd_Glass_freshened : (["self", "state", "number", "rows", "store"] : List Str).Nodup := by decide +kernel
theorem ok_Glass_freshened (h : Fx K mg) : OkM PW HasW.w K mg base 5 "Glass" "freshened" 3 m_Glass_freshened := OkM.keep (N := ["self", "state", "number", "rows", "store"]) (ps := ["self", "state", "number"]) (k := 4) h.d_Glass_freshened ⟨rfl, rfl, rfl, nd_Glass_freshened, rfl, by decide +kernel, by decide +kernel⟩
  (fun _ _ _ _ _ _ us hl => match us, hl with | [_, _, _], _ => rfl) fun fd cdv A outer s H E hr =>
  (qs_cons (q_drop (q_methA (ok_Glass_check_worker h) h.cl_Glass h.me_Glass_check_worker hr (by decide) (takes_of rfl rfl rfl rfl) (qv 0) (qa_cons (qv 1) (qa_cons (qv 2) qa_nil))))
    (qs_cons (q_asg (qv 1) (qg_tup rfl (qgs_cons (qg_name (i := 3) nd_Glass_freshened rfl (Or.inl rfl)) (qgs_cons (qg_name (i := 4) nd_Glass_freshened rfl (Or.inl rfl)) qgs_nil))))
    (qs_one (q_ret (q_tup (qa_cons (q_tup (qa_star (q_slice (qv 3) qp_none (qp_some (qv 2))) (qa_cons (q_tup (qa_cons (q_gstr rfl h.c_NO_GROUP) (qa_cons (q_methA (ok_Glass_first_words h) h.cl_Glass h.me_Glass_first_words hr (by decide) (takes_of rfl rfl rfl rfl) (qv 0) (qa_cons q_bl qa_nil)) qa_nil))) (qa_star (q_slice (qv 3) (qp_some (q_op ol_add (qv 2) q_int)) qp_none) qa_nil)))) (qa_cons (qv 4) qa_nil)))))))
theorem nd_Glass_cleared : (["self", "state"] : List Str).Nodup := by decide +kernel
theorem ok_Glass_cleared (h : Fx K mg) : OkM PW HasW.w K mg base 5 "Glass" "cleared" 2 m_Glass_cleared := OkM.keep (N := ["self", "state"]) (ps := ["self", "state"]) (k := 4) h.d_Glass_cleared ⟨rfl, rfl, rfl, nd_Glass_cleared, rfl, by decide +kernel, by decide +kernel⟩
  (fun _ _ _ _ _ _ us hl => match us, hl with | [_, _], _ => rfl) fun fd cdv A outer s H E hr =>
  (qs_one (q_ret (q_tup (qa_cons (q_ix (il_ix (hu1 hr)) (qv 1) q_int) (qa_cons (q_methA (ok_Glass_first_words h) h.cl_Glass h.me_Glass_first_words hr (by decide) (takes_of rfl rfl rfl rfl) (qv 0) (qa_cons q_bl qa_nil)) qa_nil)))))
theorem nd__law_stays_right : (["_law_c", "_law_d", "_law_p", "_law_r", "_law_lines", "_law_glass", "_law_a", "_law_b", "_law_v", "_law_told", "_law_start", "_law_held"] : List Str).Nodup := by decide +kernel
theorem ok__law_stays_right (h : Fx K mg) : OkD PW HasW.w K mg base 18 "_law_stays_right" 4 m__law_stays_right := OkD.of (N := ["_law_c", "_law_d", "_law_p", "_law_r", "_law_lines", "_law_glass", "_law_a", "_law_b", "_law_v", "_law_told", "_law_start", "_law_held"]) (ps := ["_law_c", "_law_d", "_law_p", "_law_r"]) (k := 17) h.d__law_stays_right ⟨rfl, rfl, rfl, nd__law_stays_right, rfl, by decide +kernel, by decide +kernel⟩
  (fun _ _ _ _ _ _ us hl => match us, hl with | [_, _, _, _], _ => rfl) fun fd cdv A outer s H E hr =>
  (qs_cons (q_set (i := 4) nd__law_stays_right rfl (Or.inl rfl) (q_lst (qa_cons (q_op ol_add (q_op ol_add (q_op ol_add (q_op ol_add (q_op ol_add q_str (qv 0)) q_str) (qv 2)) q_str) (qv 3)) (qa_cons (q_op ol_add (q_op ol_add (q_op ol_add (q_op ol_add (q_op ol_add q_str (qv 1)) q_str) (qv 2)) q_str) (qv 3)) (qa_cons q_str qa_nil)))))
    (qs_cons (q_set (i := 4) nd__law_stays_right rfl (Or.inl rfl) (q_op ol_add (qv 4) (q_lst (qa_cons q_str (qa_cons (q_op ol_add (q_op ol_add (q_op ol_add q_str (qv 0)) q_str) (qv 3)) (qa_cons (q_op ol_add (q_op ol_add (q_op ol_add q_str (qv 1)) q_str) (qv 3)) (qa_cons (q_op ol_add (q_op ol_add (q_op ol_add q_str (qv 0)) q_str) (qv 2)) qa_nil)))))))
    (qs_cons (q_set (i := 4) nd__law_stays_right rfl (Or.inl rfl) (q_op ol_add (qv 4) (q_lst (qa_cons q_str (qa_cons (q_op ol_add (q_op ol_add (q_op ol_add q_str (qv 1)) q_str) (qv 3)) (qa_cons q_str (qa_cons (q_op ol_add (q_op ol_add (q_op ol_add q_str (qv 0)) q_str) (qv 2)) qa_nil)))))))
    (qs_cons (q_parT (n := 4) rfl (qa_cons (q_makeW (ok_Glass___init__ h) h.mk_Glass hr (by decide) rfl h.g_Glass (takes_of rfl rfl rfl rfl) (qa_cons (q_bm tyk_str PySem.F.plainAttrs_str PySem.F.slot_str_join PySem.F.type_str_join ml_join q_str (qa_cons (qv 4) qa_nil)) qa_nil)) (qa_cons (q_tup (qa_cons q_str (qa_cons q_int qa_nil))) (qa_cons (q_tup (qa_cons q_str (qa_cons q_int qa_nil))) (qa_cons (q_tup (qa_cons q_str (qa_cons q_int qa_nil))) qa_nil)))) (qgs_cons (qg_name (i := 5) nd__law_stays_right rfl (Or.inl rfl)) (qgs_cons (qg_name (i := 6) nd__law_stays_right rfl (Or.inl rfl)) (qgs_cons (qg_name (i := 7) nd__law_stays_right rfl (Or.inl rfl)) (qgs_cons (qg_name (i := 8) nd__law_stays_right rfl (Or.inl rfl)) qgs_nil)))) (fun _ _ _ _ h => len_cons (fun _ _ _ _ h => len_cons (fun _ _ _ _ h => len_cons (fun _ _ _ _ h => len_cons (fun _ _ _ _ h => len_nil h) h) h) h) h) (by decide))
    (qs_cons (q_set (i := 9) nd__law_stays_right rfl (Or.inl rfl) (q_lst (qa_cons (q_methA (ok_Glass_outcomes h) h.cl_Glass h.me_Glass_outcomes hr (by decide) (takes_of rfl rfl rfl rfl) (qv 5) (qa_cons (q_tup (qa_cons (qv 6) (qa_cons (qv 8) qa_nil))) qa_nil)) (qa_cons (q_methA (ok_Glass_outcomes h) h.cl_Glass h.me_Glass_outcomes hr (by decide) (takes_of rfl rfl rfl rfl) (qv 5) (qa_cons (q_tup (qa_cons (qv 8) (qa_cons (qv 7) (qa_cons (qv 6) (qa_cons (qv 8) qa_nil))))) qa_nil)) qa_nil))))
    (qs_cons (q_ifS (qt_cmp (ol_ne (hu64 hr)) (qv 9) (q_lst (qa_cons (q_tup (qa_cons q_str (qa_cons q_str qa_nil))) (qa_cons (q_tup (qa_cons q_str (qa_cons q_str (qa_cons q_str (qa_cons q_str qa_nil))))) qa_nil)))) (qs_one (q_ret q_bl)) qs_nil)
    (qs_cons (q_set (i := 10) nd__law_stays_right rfl (Or.inl rfl) (q_methA (ok_Glass_start h) h.cl_Glass h.me_Glass_start hr (by decide) (takes_of rfl rfl rfl rfl) (qv 5) (qa_cons q_int qa_nil)))
    (qs_cons (q_ifS (qt_cmp (ol_ne (hu64 hr)) (q_methA (ok_Glass_after h) h.cl_Glass h.me_Glass_after hr (by decide) (takes_of rfl rfl rfl rfl) (qv 5) (qa_cons (qv 10) (qa_cons q_int (qa_cons (qv 6) qa_nil)))) (q_tup (qa_cons q_str (qa_cons (q_tup (qa_cons (q_tup (qa_cons (q_tup (qa_cons q_str (qa_cons (q_tup (qa_cons (qv 2) qa_nil)) qa_nil))) (qa_cons (q_tup (qa_cons q_str (qa_cons (q_tup (qa_cons (qv 3) qa_nil)) qa_nil))) qa_nil))) (qa_cons (q_tup (qa_cons (qv 2) qa_nil)) qa_nil))) qa_nil)))) (qs_one (q_ret q_bl)) qs_nil)
    (qs_cons (q_set (i := 11) nd__law_stays_right rfl (Or.inl rfl) (q_ix (il_ix (hu1 hr)) (q_methA (ok_Glass_after h) h.cl_Glass h.me_Glass_after hr (by decide) (takes_of rfl rfl rfl rfl) (qv 5) (qa_cons (q_ix (il_ix (hu1 hr)) (q_methA (ok_Glass_after h) h.cl_Glass h.me_Glass_after hr (by decide) (takes_of rfl rfl rfl rfl) (qv 5) (qa_cons (qv 10) (qa_cons q_int (qa_cons (qv 6) qa_nil)))) q_int) (qa_cons q_int (qa_cons (qv 7) qa_nil)))) q_int))
    (qs_cons (q_ifS (qt_w (qw_or (qt_cmp (ol_ne (hu64 hr)) (qv 11) (q_tup (qa_cons (q_tup (qa_cons (q_tup (qa_cons q_str (qa_cons (q_tup (qa_cons (qv 2) qa_nil)) qa_nil))) (qa_cons (q_tup (qa_cons q_str (qa_cons (q_tup (qa_cons (qv 3) qa_nil)) qa_nil))) qa_nil))) (qa_cons (q_tup (qa_cons (qv 3) qa_nil)) qa_nil)))) (qw_or1 (qt_cmp (ol_ne (hu64 hr)) (q_ix (il_ix (hu1 hr)) (q_methA (ok_Glass_after h) h.cl_Glass h.me_Glass_after hr (by decide) (takes_of rfl rfl rfl rfl) (qv 5) (qa_cons (qv 11) (qa_cons q_int (qa_cons (qv 8) qa_nil)))) q_int) q_str)))) (qs_one (q_ret q_bl)) qs_nil)
    (qs_cons (q_ifS (qt_cmp (ol_ne (hu64 hr)) (q_methA (ok_Glass_freshened h) h.cl_Glass h.me_Glass_freshened hr (by decide) (takes_of rfl rfl rfl rfl) (qv 5) (qa_cons (qv 11) (qa_cons q_int qa_nil))) (q_tup (qa_cons (q_tup (qa_cons (q_tup (qa_cons q_str (qa_cons (q_tup (qa_cons (qv 2) qa_nil)) qa_nil))) (qa_cons (q_tup (qa_cons q_str (qa_cons (q_tup (qa_cons (qv 2) qa_nil)) qa_nil))) qa_nil))) (qa_cons (q_tup (qa_cons (qv 3) qa_nil)) qa_nil)))) (qs_one (q_ret q_bl)) qs_nil)
    (qs_one (q_ret (q_and (q_cmp (ol_eq (hu64 hr)) (q_methA (ok_Glass_cleared h) h.cl_Glass h.me_Glass_cleared hr (by decide) (takes_of rfl rfl rfl rfl) (qv 5) (qa_cons (qv 11) qa_nil)) (q_tup (qa_cons (q_tup (qa_cons (q_tup (qa_cons q_str (qa_cons (q_tup (qa_cons (qv 2) qa_nil)) qa_nil))) (qa_cons (q_tup (qa_cons q_str (qa_cons (q_tup (qa_cons (qv 3) qa_nil)) qa_nil))) qa_nil))) (qa_cons (q_tup (qa_cons (qv 2) qa_nil)) qa_nil)))) (q_one (q_cmp (ol_eq (hu64 hr)) (q_ix (il_ix (hu1 hr)) (q_methA (ok_Glass_after h) h.cl_Glass h.me_Glass_after hr (by decide) (takes_of rfl rfl rfl rfl) (qv 5) (qa_cons (qv 11) (qa_cons q_int (qa_cons (qv 8) qa_nil)))) q_int) q_str))))))))))))))))
theorem nd__law_opens_right : (["_law_c", "_law_d", "_law_p", "_law_r", "_law_lines", "_law_glass", "_law_a", "_law_b", "_law_held", "_law_goal", "_law_due"] : List Str).Nodup := by decide +kernel
theorem ok__law_opens_right (h : Fx K mg) : OkD PW HasW.w K mg base 18 "_law_opens_right" 4 m__law_opens_right := OkD.of (N := ["_law_c", "_law_d", "_law_p", "_law_r", "_law_lines", "_law_glass", "_law_a", "_law_b", "_law_held", "_law_goal", "_law_due"]) (ps := ["_law_c", "_law_d", "_law_p", "_law_r"]) (k := 17) h.d__law_opens_right ⟨rfl, rfl, rfl, nd__law_opens_right, rfl, by decide +kernel, by decide +kernel⟩
  (fun _ _ _ _ _ _ us hl => match us, hl with | [_, _, _, _], _ => rfl) fun fd cdv A outer s H E hr =>
  (qs_cons (q_set (i := 4) nd__law_opens_right rfl (Or.inl rfl) (q_lst (qa_cons (q_op ol_add (q_op ol_add (q_op ol_add (q_op ol_add (q_op ol_add q_str (qv 0)) q_str) (qv 2)) q_str) (qv 3)) (qa_cons (q_op ol_add (q_op ol_add (q_op ol_add (q_op ol_add (q_op ol_add q_str (qv 1)) q_str) (qv 2)) q_str) (qv 3)) (qa_cons q_str (qa_cons q_str qa_nil))))))
    (qs_cons (q_set (i := 4) nd__law_opens_right rfl (Or.inl rfl) (q_op ol_add (qv 4) (q_lst (qa_cons (q_op ol_add (q_op ol_add (q_op ol_add q_str (qv 1)) q_str) (qv 3)) (qa_cons (q_op ol_add (q_op ol_add (q_op ol_add q_str (qv 0)) q_str) (qv 2)) (qa_cons (q_op ol_add (q_op ol_add (q_op ol_add q_str (qv 1)) q_str) (qv 2)) (qa_cons q_str qa_nil)))))))
    (qs_cons (q_set (i := 4) nd__law_opens_right rfl (Or.inl rfl) (q_op ol_add (qv 4) (q_lst (qa_cons (q_op ol_add (q_op ol_add (q_op ol_add q_str (qv 0)) q_str) (qv 3)) (qa_cons q_str (qa_cons q_str (qa_cons q_str (qa_cons (q_op ol_add (q_op ol_add (q_op ol_add q_str (qv 1)) q_str) (qv 2)) qa_nil))))))))
    (qs_cons (q_par3 (i := 5) (j := 6) (l := 7) rfl nd__law_opens_right rfl rfl rfl (by decide) (by decide) (by decide) rfl rfl rfl (qa_cons (q_makeW (ok_Glass___init__ h) h.mk_Glass hr (by decide) rfl h.g_Glass (takes_of rfl rfl rfl rfl) (qa_cons (q_bm tyk_str PySem.F.plainAttrs_str PySem.F.slot_str_join PySem.F.type_str_join ml_join q_str (qa_cons (qv 4) qa_nil)) qa_nil)) (qa_cons (q_tup (qa_cons q_str (qa_cons q_int qa_nil))) (qa_cons (q_tup (qa_cons q_str (qa_cons q_int qa_nil))) qa_nil))))
    (qs_cons (q_ifS (qt_cmp (ol_ne (hu64 hr)) (q_methA (ok_Glass_outcomes h) h.cl_Glass h.me_Glass_outcomes hr (by decide) (takes_of rfl rfl rfl rfl) (qv 5) (qa_cons (q_tup (qa_cons (qv 6) (qa_cons (qv 7) (qa_cons (qv 6) (qa_cons (qv 6) (qa_cons (qv 7) (qa_cons (qv 6) qa_nil))))))) qa_nil)) (q_tup (qa_cons q_str (qa_cons q_str (qa_cons q_str (qa_cons q_str (qa_cons q_str (qa_cons q_str qa_nil)))))))) (qs_one (q_ret q_bl)) qs_nil)
    (qs_cons (q_set (i := 8) nd__law_opens_right rfl (Or.inl rfl) (q_methA (ok_Glass_start h) h.cl_Glass h.me_Glass_start hr (by decide) (takes_of rfl rfl rfl rfl) (qv 5) (qa_cons q_int qa_nil)))
    (qs_cons (q_for (passes_of rfl) rfl (qi_val (q_lst (qa_cons (q_tup (qa_cons (qv 6) (qa_cons (q_tup (qa_cons q_str (qa_cons (qv 2) (qa_cons (qv 2) qa_nil)))) qa_nil))) (qa_cons (q_tup (qa_cons (qv 6) (qa_cons (q_tup (qa_cons q_str (qa_cons (qv 2) (qa_cons (qv 2) qa_nil)))) qa_nil))) (qa_cons (q_tup (qa_cons (qv 7) (qa_cons (q_tup (qa_cons q_str (qa_cons (qv 3) (qa_cons (qv 2) qa_nil)))) qa_nil))) (qa_cons (q_tup (qa_cons (qv 6) (qa_cons (q_tup (qa_cons q_str (qa_cons (qv 3) (qa_cons (qv 3) qa_nil)))) qa_nil))) (qa_cons (q_tup (qa_cons (qv 7) (qa_cons (q_tup (qa_cons q_str (qa_cons (qv 3) (qa_cons (qv 2) qa_nil)))) qa_nil))) qa_nil))))))) (qg_tup rfl (qgs_cons (qg_name (i := 9) nd__law_opens_right rfl (Or.inl rfl)) (qgs_cons (qg_name (i := 10) nd__law_opens_right rfl (Or.inl rfl)) qgs_nil))) (qs_cons (q_set (i := 8) nd__law_opens_right rfl (Or.inl rfl) (q_ix (il_ix (hu1 hr)) (q_methA (ok_Glass_after h) h.cl_Glass h.me_Glass_after hr (by decide) (takes_of rfl rfl rfl rfl) (qv 5) (qa_cons (qv 8) (qa_cons q_int (qa_cons (qv 9) qa_nil)))) q_int))
    (qs_one (q_ifS (qt_cmp (ol_ne (hu64 hr)) (qv 8) (q_tup (qa_cons (q_tup (qa_cons (q_tup (qa_cons (q_ix (il_ix (hu1 hr)) (qv 10) q_int) (qa_cons (q_tup (qa_cons (q_ix (il_ix (hu1 hr)) (qv 10) q_int) qa_nil)) qa_nil))) qa_nil)) (qa_cons (q_tup (qa_cons (q_ix (il_ix (hu1 hr)) (qv 10) q_int) qa_nil)) qa_nil)))) (qs_one (q_ret q_bl)) qs_nil))))
    (qs_one (q_ret (q_cmp (ol_eq (hu64 hr)) (q_methA (ok_Glass_after h) h.cl_Glass h.me_Glass_after hr (by decide) (takes_of rfl rfl rfl rfl) (qv 5) (qa_cons (q_methA (ok_Glass_freshened h) h.cl_Glass h.me_Glass_freshened hr (by decide) (takes_of rfl rfl rfl rfl) (qv 5) (qa_cons (qv 8) (qa_cons q_int qa_nil))) (qa_cons q_int (qa_cons (qv 6) qa_nil)))) (q_tup (qa_cons q_str (qa_cons (q_tup (qa_cons (q_tup (qa_cons (q_tup (qa_cons q_str (qa_cons (q_tup (qa_cons (qv 2) qa_nil)) qa_nil))) qa_nil)) (qa_cons (q_tup (qa_cons (qv 2) qa_nil)) qa_nil))) qa_nil)))))))))))))
theorem nd__law_turns_right : (["_law_c", "_law_e", "_law_words", "_law_times", "_law_p", "_law_r", "_law_t", "_law_lines", "_law_glass", "_law_a", "_law_b", "_law_v", "_law_held", "_law_turn"] : List Str).Nodup := by decide +kernel
theorem ok__law_turns_right (h : Fx K mg) : OkD PW HasW.w K mg base 18 "_law_turns_right" 4 m__law_turns_right := OkD.of (N := ["_law_c", "_law_e", "_law_words", "_law_times", "_law_p", "_law_r", "_law_t", "_law_lines", "_law_glass", "_law_a", "_law_b", "_law_v", "_law_held", "_law_turn"]) (ps := ["_law_c", "_law_e", "_law_words", "_law_times"]) (k := 17) h.d__law_turns_right ⟨rfl, rfl, rfl, nd__law_turns_right, rfl, by decide +kernel, by decide +kernel⟩
  (fun _ _ _ _ _ _ us hl => match us, hl with | [_, _, _, _], _ => rfl) fun fd cdv A outer s H E hr =>
  (qs_cons (q_asg (qv 2) (qg_tup rfl (qgs_cons (qg_name (i := 4) nd__law_turns_right rfl (Or.inl rfl)) (qgs_cons (qg_name (i := 5) nd__law_turns_right rfl (Or.inl rfl)) (qgs_cons (qg_name (i := 6) nd__law_turns_right rfl (Or.inl rfl)) qgs_nil)))))
    (qs_cons (q_set (i := 7) nd__law_turns_right rfl (Or.inl rfl) (q_lst (qa_cons (q_op ol_add (q_op ol_add (q_op ol_add q_str (qv 0)) q_str) (q_bm tyk_str PySem.F.plainAttrs_str PySem.F.slot_str_join PySem.F.type_str_join ml_join q_str (qa_cons (qv 2) qa_nil))) (qa_cons (q_op ol_add (q_op ol_add (q_op ol_add q_str (qv 1)) q_str) (q_bm tyk_str PySem.F.plainAttrs_str PySem.F.slot_str_join PySem.F.type_str_join ml_join q_str (qa_cons (qv 2) qa_nil))) (qa_cons q_str (qa_cons q_str qa_nil))))))
    (qs_cons (q_set (i := 7) nd__law_turns_right rfl (Or.inl rfl) (q_op ol_add (qv 7) (q_lst (qa_cons (q_op ol_add (q_op ol_add (q_op ol_add q_str (qv 0)) q_str) (qv 4)) (qa_cons (q_op ol_add (q_op ol_add (q_op ol_add q_str (qv 0)) q_str) (qv 5)) (qa_cons q_str (qa_cons (q_op ol_add (q_op ol_add (q_op ol_add q_str (qv 0)) q_str) (qv 5)) qa_nil)))))))
    (qs_cons (q_set (i := 7) nd__law_turns_right rfl (Or.inl rfl) (q_op ol_add (qv 7) (q_lst (qa_cons (q_op ol_add (q_op ol_add (q_op ol_add q_str (qv 0)) q_str) (qv 6)) (qa_cons q_str (qa_cons (q_op ol_add (q_op ol_add (q_op ol_add q_str (qv 0)) q_str) (qv 4)) (qa_cons q_str qa_nil)))))))
    (qs_cons (q_set (i := 7) nd__law_turns_right rfl (Or.inl rfl) (q_op ol_add (qv 7) (q_lst (qa_cons (q_op ol_add (q_op ol_add (q_op ol_add q_str (qv 0)) q_str) (qv 1)) (qa_cons q_str (qa_cons (q_op ol_add (q_op ol_add (q_op ol_add q_str (qv 1)) q_str) (qv 6)) (qa_cons q_str qa_nil)))))))
    (qs_cons (q_parT (n := 4) rfl (qa_cons (q_makeW (ok_Glass___init__ h) h.mk_Glass hr (by decide) rfl h.g_Glass (takes_of rfl rfl rfl rfl) (qa_cons (q_bm tyk_str PySem.F.plainAttrs_str PySem.F.slot_str_join PySem.F.type_str_join ml_join q_str (qa_cons (qv 7) qa_nil)) qa_nil)) (qa_cons (q_tup (qa_cons q_str (qa_cons q_int qa_nil))) (qa_cons (q_tup (qa_cons q_str (qa_cons q_int qa_nil))) (qa_cons (q_tup (qa_cons q_str (qa_cons q_int qa_nil))) qa_nil)))) (qgs_cons (qg_name (i := 8) nd__law_turns_right rfl (Or.inl rfl)) (qgs_cons (qg_name (i := 9) nd__law_turns_right rfl (Or.inl rfl)) (qgs_cons (qg_name (i := 10) nd__law_turns_right rfl (Or.inl rfl)) (qgs_cons (qg_name (i := 11) nd__law_turns_right rfl (Or.inl rfl)) qgs_nil)))) (fun _ _ _ _ h => len_cons (fun _ _ _ _ h => len_cons (fun _ _ _ _ h => len_cons (fun _ _ _ _ h => len_cons (fun _ _ _ _ h => len_nil h) h) h) h) h) (by decide))
    (qs_cons (q_ifS (qt_cmp (ol_ne (hu64 hr)) (q_methA (ok_Glass_outcomes h) h.cl_Glass h.me_Glass_outcomes hr (by decide) (takes_of rfl rfl rfl rfl) (qv 8) (qa_cons (q_op ol_add (q_op ol_mulT (q_tup (qa_cons (qv 9) qa_nil)) (qv 3)) (q_tup (qa_cons (qv 10) (qa_cons (qv 11) qa_nil)))) qa_nil)) (q_op ol_add (q_op ol_mulT (q_tup (qa_cons q_str qa_nil)) (q_op ol_add (qv 3) q_int)) (q_tup (qa_cons (q_ix (il_ix (hu1 hr)) (q_lst (qa_cons q_str (qa_cons q_str (qa_cons q_str qa_nil)))) (q_callTy cl_intA rfl h.n_int PyProof.Rows.boot_int (qa_cons (q_op ol_mod (qv 3) q_int) qa_nil))) qa_nil)))) (qs_one (q_ret q_bl)) qs_nil)
    (qs_cons (q_set (i := 12) nd__law_turns_right rfl (Or.inl rfl) (q_methA (ok_Glass_start h) h.cl_Glass h.me_Glass_start hr (by decide) (takes_of rfl rfl rfl rfl) (qv 8) (qa_cons q_int qa_nil)))
    (qs_cons (q_for (passes_of rfl) rfl (qi_range1 rfl h.n_range (qa_cons (qv 3) qa_nil)) (qg_name (i := 13) nd__law_turns_right rfl (Or.inl rfl)) (qs_cons (q_set (i := 12) nd__law_turns_right rfl (Or.inl rfl) (q_ix (il_ix (hu1 hr)) (q_methA (ok_Glass_after h) h.cl_Glass h.me_Glass_after hr (by decide) (takes_of rfl rfl rfl rfl) (qv 8) (qa_cons (qv 12) (qa_cons q_int (qa_cons (qv 9) qa_nil)))) q_int))
    (qs_one (q_ifS (qt_cmp (ol_ne (hu64 hr)) (qv 12) (q_tup (qa_cons (q_tup (qa_cons (q_tup (qa_cons q_str (qa_cons (q_tup (qa_cons (q_ix (il_ix (hu1 hr)) (qv 2) (q_callTy cl_intA rfl h.n_int PyProof.Rows.boot_int (qa_cons (q_op ol_mod (q_op ol_add (qv 13) q_int) q_int) qa_nil))) (qa_cons (qv 4) qa_nil))) qa_nil))) qa_nil)) (qa_cons (q_tup qa_nil) qa_nil)))) (qs_one (q_ret q_bl)) qs_nil))))
    (qs_one (q_ret (q_cmp (ol_eq (hu64 hr)) (q_prop (ok_Glass_cells h) h.cl_Glass h.pr_Glass_cells hr (by decide) (qv 8)) (q_tup (qa_cons (q_tup (qa_cons (qv 0) (qa_cons (qv 2) (qa_cons q_bl qa_nil)))) (qa_cons (q_tup (qa_cons (qv 1) (qa_cons (qv 2) (qa_cons q_bl qa_nil)))) qa_nil)))))))))))))))
theorem nd_law : (["_law_script", "_law_k", "_law_jar_here", "_law_c", "_law_d", "_law_p", "_law_r"] : List Str).Nodup := by decide +kernel
theorem ok_law (h : Fx K mg) : OkD PW HasW.w K mg base 19 "law" 1 m_law := OkD.of (N := ["_law_script", "_law_k", "_law_jar_here", "_law_c", "_law_d", "_law_p", "_law_r"]) (ps := ["_law_script"]) (k := 18) h.d_law ⟨rfl, rfl, rfl, nd_law, rfl, by decide +kernel, by decide +kernel⟩
  (fun _ _ _ _ _ _ us hl => match us, hl with | [_], _ => rfl) fun fd cdv A outer s H E hr =>
  (qs_cons (q_for (passes_of rfl) rfl (qi_range1 rfl h.n_range (qa_cons (q_callB (cl_max rfl) rfl h.n_max PyProof.Rows.boot_max (qa_cons q_int (qa_cons (q_callB (cl_min rfl) rfl h.n_min PyProof.Rows.boot_min (qa_cons q_int (qa_cons (q_callB cl_len rfl h.n_len bt_len (qa_cons (qv 0) qa_nil)) qa_nil))) qa_nil))) qa_nil)) (qg_name (i := 1) nd_law rfl (Or.inl rfl)) (qs_cons (q_set (i := 2) nd_law rfl (Or.inl rfl) (q_callD (ok__law_jar h) hr (by decide) rfl (takes_of rfl rfl rfl rfl) (qa_cons (qv 0) (qa_cons (qv 1) qa_nil))))
    (qs_cons (q_asg (q_callD (ok__law_of h) hr (by decide) rfl (takes_of rfl rfl rfl rfl) (qa_cons (qv 2) (qa_cons (q_lst (qa_cons (q_tup (qa_cons q_str (qa_cons q_str qa_nil))) (qa_cons (q_tup (qa_cons q_str (qa_cons q_str qa_nil))) (qa_cons (q_tup (qa_cons q_str (qa_cons q_str qa_nil))) (qa_cons (q_tup (qa_cons q_str (qa_cons q_str qa_nil))) qa_nil))))) qa_nil))) (qg_tup rfl (qgs_cons (qg_name (i := 3) nd_law rfl (Or.inl rfl)) (qgs_cons (qg_name (i := 4) nd_law rfl (Or.inl rfl)) qgs_nil))))
    (qs_cons (q_asg (q_callD (ok__law_of h) hr (by decide) rfl (takes_of rfl rfl rfl rfl) (qa_cons (qv 2) (qa_cons (q_lst (qa_cons (q_tup (qa_cons q_str (qa_cons q_str qa_nil))) (qa_cons (q_tup (qa_cons q_str (qa_cons q_str qa_nil))) (qa_cons (q_tup (qa_cons q_str (qa_cons q_str qa_nil))) (qa_cons (q_tup (qa_cons (qv 3) (qa_cons (qv 4) qa_nil))) qa_nil))))) qa_nil))) (qg_tup rfl (qgs_cons (qg_name (i := 5) nd_law rfl (Or.inl rfl)) (qgs_cons (qg_name (i := 6) nd_law rfl (Or.inl rfl)) qgs_nil))))
    (qs_cons (q_ifS (qt_w (qw_or (qt_not (qt_true (q_callD (ok__law_stays_right h) hr (by decide) rfl (takes_of rfl rfl rfl rfl) (qa_cons (qv 3) (qa_cons (qv 4) (qa_cons (qv 5) (qa_cons (qv 6) qa_nil))))))) (qw_or1 (qt_not (qt_true (q_callD (ok__law_opens_right h) hr (by decide) rfl (takes_of rfl rfl rfl rfl) (qa_cons (qv 3) (qa_cons (qv 4) (qa_cons (qv 5) (qa_cons (qv 6) qa_nil)))))))))) (qs_one (q_ret q_bl)) qs_nil)
    (qs_one (q_ifS (qt_not (qt_true (q_callD (ok__law_turns_right h) hr (by decide) rfl (takes_of rfl rfl rfl rfl) (qa_cons (qv 3) (qa_cons (qv 4) (qa_cons (q_tup (qa_cons (qv 5) (qa_cons (qv 6) (qa_cons q_str qa_nil)))) (qa_cons (q_callD (ok__law_take h) hr (by decide) rfl (takes_of rfl rfl rfl rfl) (qa_cons (qv 2) (qa_cons q_int qa_nil))) qa_nil))))))) (qs_one (q_ret q_bl)) qs_nil)))))))
    (qs_one (q_ret q_bl)))
end
end G

namespace G
open PySem L2 L2.DL
def isTN (r : Rs Vl) : Bool := match r with
  | .ok (.dat (.bl true)) [] => true
  | _ => false
theorem isTN_eq {r : Rs Vl} (h : isTN r = true) : r = .ok (.dat (.bl true)) [] := by
  unfold isTN at h
  split at h
  · rfl
  · cases h
def isD (r : Rs Vl) : Bool := match r with
  | .ok (.dat _) [] => true
  | _ => false
def getD (r : Rs Vl) : D := match r with
  | .ok (.dat d) _ => d
  | _ => .non
theorem isD_eq {r : Rs Vl} (h : isD r = true) : r = .ok (.dat (getD r)) [] := by
  unfold isD at h
  split at h
  · rfl
  · cases h
abbrev z (s : Str) : Vl := .dat (.str s)
abbrev zt (a b c : Str) : Vl := .dat (.tup [.str a, .str b, .str c])
abbrev it (a : Str) : Vl := .dat (.tup [.str a, .int 1])
def pre5 : SD := (seqS (asgS (vD 2) (tupG 3 (consG (nameG 4) (consG (nameG 5) (consG (nameG 6) nilG)))))
    (seqS (setS 7 (lstE (consA (opE addO (opE addO (opE addO (cD (.str "cell ")) (vD 0)) (cD (.str " "))) (mtE isStr joinO (cD (.str " ")) (consA (vD 2) nilA))) (consA (opE addO (opE addO (opE addO (cD (.str "cell ")) (vD 1)) (cD (.str " "))) (mtE isStr joinO (cD (.str " ")) (consA (vD 2) nilA))) (consA (cD (.str "group g")) (consA (cD (.str "  check a 1")) nilA))))))
    (seqS (setS 7 (opE addO (vD 7) (lstE (consA (opE addO (opE addO (opE addO (cD (.str "    if ")) (vD 0)) (cD (.str " = "))) (vD 4)) (consA (opE addO (opE addO (opE addO (cD (.str "      set ")) (vD 0)) (cD (.str " "))) (vD 5)) (consA (cD (.str "    else")) (consA (opE addO (opE addO (opE addO (cD (.str "      if ")) (vD 0)) (cD (.str " = "))) (vD 5)) nilA)))))))
    (seqS (setS 7 (opE addO (vD 7) (lstE (consA (opE addO (opE addO (opE addO (cD (.str "        set ")) (vD 0)) (cD (.str " "))) (vD 6)) (consA (cD (.str "      else")) (consA (opE addO (opE addO (opE addO (cD (.str "        set ")) (vD 0)) (cD (.str " "))) (vD 4)) (consA (cD (.str "  check b 1")) nilA)))))))
    (setS 7 (opE addO (vD 7) (lstE (consA (opE addO (opE addO (opE addO (cD (.str "    copy ")) (vD 0)) (cD (.str " to "))) (vD 1)) (consA (cD (.str "  check v 1")) (consA (opE addO (opE addO (opE addO (cD (.str "    if ")) (vD 1)) (cD (.str " = "))) (vD 6)) (consA (cD (.str "      fail")) nilA)))))))))))
def glE : Ev → M (List Vl) := (consA (mtE isStr joinO (cD (.str "\n")) (consA (vD 7) nilA)) nilA)
def abvE : Ev → M (List Vl) := (consA (tupE (consA (cD (.str "a")) (consA (cD (.int 1)) nilA))) (consA (tupE (consA (cD (.str "b")) (consA (cD (.int 1)) nilA))) (consA (tupE (consA (cD (.str "v")) (consA (cD (.int 1)) nilA))) nilA)))
def restT : SD := (seqS (ifS (boolD (opE neO (methA "Glass" "outcomes" 2 m_Glass_outcomes (vD 8) (consA (opE addO (opE mulT (tupE (consA (vD 9) nilA)) (vD 3)) (tupE (consA (vD 10) (consA (vD 11) nilA)))) nilA)) (opE addO (opE mulT (tupE (consA (cD (.str "pass")) nilA)) (opE addO (vD 3) (cD (.int 1)))) (tupE (consA (opE ixO (lstE (consA (cD (.str "pass")) (consA (cD (.str "pass")) (consA (cD (.str "fail")) nilA)))) (callE (oneO intAO) (consA (opE modO (vD 3) (cD (.int 3))) nilA))) nilA))))) (retS (cD (.bl false))) nextS)
    (seqS (setS 12 (methA "Glass" "start" 2 m_Glass_start (vD 8) (consA (cD (.int 1)) nilA)))
    (seqS (forS (rng1S (consA (vD 3) nilA)) (nameG 13) (seqS (setS 12 (opE ixO (methA "Glass" "after" 4 m_Glass_after (vD 8) (consA (vD 12) (consA (cD (.int 0)) (consA (vD 9) nilA)))) (cD (.int 1))))
    (ifS (boolD (opE neO (vD 12) (tupE (consA (tupE (consA (tupE (consA (cD (.str "g")) (consA (tupE (consA (opE ixO (vD 2) (callE (oneO intAO) (consA (opE modO (opE addO (vD 13) (cD (.int 1))) (cD (.int 3))) nilA))) (consA (vD 4) nilA))) nilA))) nilA)) (consA (tupE nilA) nilA))))) (retS (cD (.bl false))) nextS)))
    (retS (opE eqO (propE "Glass" m_Glass_cells (vD 8)) (tupE (consA (tupE (consA (vD 0) (consA (vD 2) (consA (cD (.bl false)) nilA)))) (consA (tupE (consA (vD 1) (consA (vD 2) (consA (cD (.bl false)) nilA)))) nilA))))))))
theorem turns_eq : m__law_turns_right = runD false 14 (seqS (asgS (vD 2) (tupG 3 (consG (nameG 4) (consG (nameG 5) (consG (nameG 6) nilG)))))
    (seqS (setS 7 (lstE (consA (opE addO (opE addO (opE addO (cD (.str "cell ")) (vD 0)) (cD (.str " "))) (mtE isStr joinO (cD (.str " ")) (consA (vD 2) nilA))) (consA (opE addO (opE addO (opE addO (cD (.str "cell ")) (vD 1)) (cD (.str " "))) (mtE isStr joinO (cD (.str " ")) (consA (vD 2) nilA))) (consA (cD (.str "group g")) (consA (cD (.str "  check a 1")) nilA))))))
    (seqS (setS 7 (opE addO (vD 7) (lstE (consA (opE addO (opE addO (opE addO (cD (.str "    if ")) (vD 0)) (cD (.str " = "))) (vD 4)) (consA (opE addO (opE addO (opE addO (cD (.str "      set ")) (vD 0)) (cD (.str " "))) (vD 5)) (consA (cD (.str "    else")) (consA (opE addO (opE addO (opE addO (cD (.str "      if ")) (vD 0)) (cD (.str " = "))) (vD 5)) nilA)))))))
    (seqS (setS 7 (opE addO (vD 7) (lstE (consA (opE addO (opE addO (opE addO (cD (.str "        set ")) (vD 0)) (cD (.str " "))) (vD 6)) (consA (cD (.str "      else")) (consA (opE addO (opE addO (opE addO (cD (.str "        set ")) (vD 0)) (cD (.str " "))) (vD 4)) (consA (cD (.str "  check b 1")) nilA)))))))
    (seqS (setS 7 (opE addO (vD 7) (lstE (consA (opE addO (opE addO (opE addO (cD (.str "    copy ")) (vD 0)) (cD (.str " to "))) (vD 1)) (consA (cD (.str "  check v 1")) (consA (opE addO (opE addO (opE addO (cD (.str "    if ")) (vD 1)) (cD (.str " = "))) (vD 6)) (consA (cD (.str "      fail")) nilA)))))))
    (seqS (parS (consA (makeA "Glass" 2 m_Glass___init__ false glE) abvE) (consG (nameG 8) (consG (nameG 9) (consG (nameG 10) (consG (nameG 11) nilG)))))
    restT)))))) := rfl
abbrev gsT := (consG (nameG 8) (consG (nameG 9) (consG (nameG 10) (consG (nameG 11) nilG))))
def fin (r : SR) : Rs Vl := match r with
  | .rt x G' => leave false 0 x G'
  | .nx _ G' => leave false 0 (.dat .non) G'
  | .ex c d _ G' => leaveX 0 c d G'
  | _ => .no
abbrev r0 (c d p r : Str) (t : Int) : Ev := [some (z c), some (z d), some (zt p r "zz"), some (.dat (.int t)), none, none, none, none, none, none, none, none, none, none]
abbrev r1 (c d p r : Str) (t : Int) (ls : List D) : Ev := [some (z c), some (z d), some (zt p r "zz"), some (.dat (.int t)), some (z p), some (z r), some (z "zz"), some (.dat (.lst ls)), none, none, none, none, none, none]
abbrev r2 (c d p r : Str) (t : Int) (ls : List D) (g : D) : Ev := [some (z c), some (z d), some (zt p r "zz"), some (.dat (.int t)), some (z p), some (z r), some (z "zz"), some (.dat (.lst ls)), some (.dat g), some (it "a"), some (it "b"), some (it "v"), none, none]
theorem seq5 {a b c d e k : SD} {ρ ρ' : Ev} {G G' : Gh} (h : seqS a (seqS b (seqS c (seqS d e))) ρ G = .nx ρ' G') : seqS a (seqS b (seqS c (seqS d (seqS e k)))) ρ G = k ρ' G' := by
  have one : ∀ {x y k : SD} {ρ ρ' : Ev} {G G' : Gh}, seqS x y ρ G = .nx ρ' G' → ∃ ρ1 G1, x ρ G = .nx ρ1 G1 ∧ y ρ1 G1 = .nx ρ' G' := fun {x y k ρ ρ' G G'} h => by
    unfold seqS at h
    split at h
    · exact ⟨_, _, by assumption, h⟩
    · rename_i hn
      exact absurd h (hn _ _)
  have two : ∀ {x y : SD} {ρ ρ1 : Ev} {G G1 : Gh}, x ρ G = .nx ρ1 G1 → seqS x y ρ G = y ρ1 G1 := fun {x y ρ ρ1 G G1} h => by unfold seqS; rw [h]
  obtain ⟨_, _, h1, h⟩ := one (k := k) h
  obtain ⟨_, _, h2, h⟩ := one (k := k) h
  obtain ⟨_, _, h3, h⟩ := one (k := k) h
  obtain ⟨_, _, h4, h⟩ := one (k := k) h
  rw [two h1, two h2, two h3, two h4, two h]
theorem turns_ok {c d p r T : Str} {t : Int} {ls : List D} {g : D} (h1 : pre5 (r0 c d p r t) [] = .nx (r1 c d p r t ls) []) (h2 : glE (r1 c d p r t ls) [] = .ok [z T] []) (h3 : newAll "Glass" 2 m_Glass___init__ false [z T] [] = .ok (.dat g) [])
    (h6 : isTN (fin (restT (r2 c d p r t ls g) [])) = true) : m__law_turns_right [z c, z d, zt p r "zz", .dat (.int t)] [] = .ok (.dat (.bl true)) [] := by
  have hm : makeA "Glass" 2 m_Glass___init__ false glE (r1 c d p r t ls) [] = .ok (.dat g) [] := by
    unfold makeA andThen
    rw [h2]
    exact h3
  have ha : abvE (r1 c d p r t ls) [] = .ok [it "a", it "b", it "v"] [] := rfl
  have hc : consA (makeA "Glass" 2 m_Glass___init__ false glE) abvE (r1 c d p r t ls) [] = .ok [.dat g, it "a", it "b", it "v"] [] := by
    unfold consA andThen
    rw [hm]
    show (match abvE (r1 c d p r t ls) [] with
      | .ok xs G' => DL.ret (Vl.dat g :: xs) G'
      | .ex c d G' => .ex c d G'
      | .no => .no) = _
    rw [ha]
    rfl
  have hp : parS (consA (makeA "Glass" 2 m_Glass___init__ false glE) abvE) gsT (r1 c d p r t ls) [] = .nx (r2 c d p r t ls g) [] := by
    unfold parS thenS
    rw [hc]
    rfl
  rw [turns_eq]
  have e : ∀ b : SD, runD false 14 b [z c, z d, zt p r "zz", .dat (.int t)] [] = fin (b (r0 c d p r t) []) := fun b => rfl
  rw [e]
  rw [seq5 (k := seqS (parS (consA (makeA "Glass" 2 m_Glass___init__ false glE) abvE) gsT) restT) h1]
  have hs : seqS (parS (consA (makeA "Glass" 2 m_Glass___init__ false glE) abvE) gsT) restT (r1 c d p r t ls) [] = restT (r2 c d p r t ls g) [] := by
    show (match parS (consA (makeA "Glass" 2 m_Glass___init__ false glE) abvE) gsT (r1 c d p r t ls) [] with
      | .nx ρ' G' => restT ρ' G'
      | r => r) = _
    rw [hp]
  rw [hs]
  exact isTN_eq h6
theorem st_0_0 : m__law_stays_right [z "ca", z "da", z "ok", z "bad"] [] = .ok (.dat (.bl true)) [] := isTN_eq (by decide +kernel)
theorem op_0_0 : m__law_opens_right [z "ca", z "da", z "ok", z "bad"] [] = .ok (.dat (.bl true)) [] := isTN_eq (by decide +kernel)
def ls_0_0 : List D := [.str "cell ca ok bad zz", .str "cell da ok bad zz", .str "group g", .str "  check a 1", .str "    if ca = ok", .str "      set ca bad", .str "    else", .str "      if ca = bad", .str "        set ca zz", .str "      else", .str "        set ca ok", .str "  check b 1", .str "    copy ca to da", .str "  check v 1", .str "    if da = zz", .str "      fail"]
def tx_0_0 : Str := "cell ca ok bad zz\ncell da ok bad zz\ngroup g\n  check a 1\n    if ca = ok\n      set ca bad\n    else\n      if ca = bad\n        set ca zz\n      else\n        set ca ok\n  check b 1\n    copy ca to da\n  check v 1\n    if da = zz\n      fail"
def gl_0_0 : D := getD (newAll "Glass" 2 m_Glass___init__ false [z tx_0_0] [])
theorem gk_0_0 : newAll "Glass" 2 m_Glass___init__ false [z tx_0_0] [] = .ok (.dat gl_0_0) [] := isD_eq (by decide +kernel)
theorem pt_0_0 (t : Int) : pre5 (r0 "ca" "da" "ok" "bad" t) [] = .nx (r1 "ca" "da" "ok" "bad" t ls_0_0) [] := by kernel_rfl
theorem ge_0_0 (t : Int) : glE (r1 "ca" "da" "ok" "bad" t ls_0_0) [] = .ok [z tx_0_0] [] := by kernel_rfl
theorem tr_0_0 : (List.range 10).all (fun t => isTN (fin (restT (r2 "ca" "da" "ok" "bad" t ls_0_0 gl_0_0) []))) = true := by decide +kernel
theorem tu_0_0 (t : Nat) (h : t < 10) : m__law_turns_right [z "ca", z "da", zt "ok" "bad" "zz", .dat (.int t)] [] = .ok (.dat (.bl true)) [] := turns_ok (pt_0_0 t) (ge_0_0 t) gk_0_0 (List.all_eq_true.mp tr_0_0 t (List.mem_range.mpr h))
theorem st_0_1 : m__law_stays_right [z "ca", z "da", z "bad", z "ok"] [] = .ok (.dat (.bl true)) [] := isTN_eq (by decide +kernel)
theorem op_0_1 : m__law_opens_right [z "ca", z "da", z "bad", z "ok"] [] = .ok (.dat (.bl true)) [] := isTN_eq (by decide +kernel)
def ls_0_1 : List D := [.str "cell ca bad ok zz", .str "cell da bad ok zz", .str "group g", .str "  check a 1", .str "    if ca = bad", .str "      set ca ok", .str "    else", .str "      if ca = ok", .str "        set ca zz", .str "      else", .str "        set ca bad", .str "  check b 1", .str "    copy ca to da", .str "  check v 1", .str "    if da = zz", .str "      fail"]
def tx_0_1 : Str := "cell ca bad ok zz\ncell da bad ok zz\ngroup g\n  check a 1\n    if ca = bad\n      set ca ok\n    else\n      if ca = ok\n        set ca zz\n      else\n        set ca bad\n  check b 1\n    copy ca to da\n  check v 1\n    if da = zz\n      fail"
def gl_0_1 : D := getD (newAll "Glass" 2 m_Glass___init__ false [z tx_0_1] [])
theorem gk_0_1 : newAll "Glass" 2 m_Glass___init__ false [z tx_0_1] [] = .ok (.dat gl_0_1) [] := isD_eq (by decide +kernel)
theorem pt_0_1 (t : Int) : pre5 (r0 "ca" "da" "bad" "ok" t) [] = .nx (r1 "ca" "da" "bad" "ok" t ls_0_1) [] := by kernel_rfl
theorem ge_0_1 (t : Int) : glE (r1 "ca" "da" "bad" "ok" t ls_0_1) [] = .ok [z tx_0_1] [] := by kernel_rfl
theorem tr_0_1 : (List.range 10).all (fun t => isTN (fin (restT (r2 "ca" "da" "bad" "ok" t ls_0_1 gl_0_1) []))) = true := by decide +kernel
theorem tu_0_1 (t : Nat) (h : t < 10) : m__law_turns_right [z "ca", z "da", zt "bad" "ok" "zz", .dat (.int t)] [] = .ok (.dat (.bl true)) [] := turns_ok (pt_0_1 t) (ge_0_1 t) gk_0_1 (List.all_eq_true.mp tr_0_1 t (List.mem_range.mpr h))
theorem st_0_2 : m__law_stays_right [z "ca", z "da", z "x", z "y"] [] = .ok (.dat (.bl true)) [] := isTN_eq (by decide +kernel)
theorem op_0_2 : m__law_opens_right [z "ca", z "da", z "x", z "y"] [] = .ok (.dat (.bl true)) [] := isTN_eq (by decide +kernel)
def ls_0_2 : List D := [.str "cell ca x y zz", .str "cell da x y zz", .str "group g", .str "  check a 1", .str "    if ca = x", .str "      set ca y", .str "    else", .str "      if ca = y", .str "        set ca zz", .str "      else", .str "        set ca x", .str "  check b 1", .str "    copy ca to da", .str "  check v 1", .str "    if da = zz", .str "      fail"]
def tx_0_2 : Str := "cell ca x y zz\ncell da x y zz\ngroup g\n  check a 1\n    if ca = x\n      set ca y\n    else\n      if ca = y\n        set ca zz\n      else\n        set ca x\n  check b 1\n    copy ca to da\n  check v 1\n    if da = zz\n      fail"
def gl_0_2 : D := getD (newAll "Glass" 2 m_Glass___init__ false [z tx_0_2] [])
theorem gk_0_2 : newAll "Glass" 2 m_Glass___init__ false [z tx_0_2] [] = .ok (.dat gl_0_2) [] := isD_eq (by decide +kernel)
theorem pt_0_2 (t : Int) : pre5 (r0 "ca" "da" "x" "y" t) [] = .nx (r1 "ca" "da" "x" "y" t ls_0_2) [] := by kernel_rfl
theorem ge_0_2 (t : Int) : glE (r1 "ca" "da" "x" "y" t ls_0_2) [] = .ok [z tx_0_2] [] := by kernel_rfl
theorem tr_0_2 : (List.range 10).all (fun t => isTN (fin (restT (r2 "ca" "da" "x" "y" t ls_0_2 gl_0_2) []))) = true := by decide +kernel
theorem tu_0_2 (t : Nat) (h : t < 10) : m__law_turns_right [z "ca", z "da", zt "x" "y" "zz", .dat (.int t)] [] = .ok (.dat (.bl true)) [] := turns_ok (pt_0_2 t) (ge_0_2 t) gk_0_2 (List.all_eq_true.mp tr_0_2 t (List.mem_range.mpr h))
theorem st_0_3 : m__law_stays_right [z "ca", z "da", z "ca", z "da"] [] = .ok (.dat (.bl true)) [] := isTN_eq (by decide +kernel)
theorem op_0_3 : m__law_opens_right [z "ca", z "da", z "ca", z "da"] [] = .ok (.dat (.bl true)) [] := isTN_eq (by decide +kernel)
def ls_0_3 : List D := [.str "cell ca ca da zz", .str "cell da ca da zz", .str "group g", .str "  check a 1", .str "    if ca = ca", .str "      set ca da", .str "    else", .str "      if ca = da", .str "        set ca zz", .str "      else", .str "        set ca ca", .str "  check b 1", .str "    copy ca to da", .str "  check v 1", .str "    if da = zz", .str "      fail"]
def tx_0_3 : Str := "cell ca ca da zz\ncell da ca da zz\ngroup g\n  check a 1\n    if ca = ca\n      set ca da\n    else\n      if ca = da\n        set ca zz\n      else\n        set ca ca\n  check b 1\n    copy ca to da\n  check v 1\n    if da = zz\n      fail"
def gl_0_3 : D := getD (newAll "Glass" 2 m_Glass___init__ false [z tx_0_3] [])
theorem gk_0_3 : newAll "Glass" 2 m_Glass___init__ false [z tx_0_3] [] = .ok (.dat gl_0_3) [] := isD_eq (by decide +kernel)
theorem pt_0_3 (t : Int) : pre5 (r0 "ca" "da" "ca" "da" t) [] = .nx (r1 "ca" "da" "ca" "da" t ls_0_3) [] := by kernel_rfl
theorem ge_0_3 (t : Int) : glE (r1 "ca" "da" "ca" "da" t ls_0_3) [] = .ok [z tx_0_3] [] := by kernel_rfl
theorem tr_0_3 : (List.range 10).all (fun t => isTN (fin (restT (r2 "ca" "da" "ca" "da" t ls_0_3 gl_0_3) []))) = true := by decide +kernel
theorem tu_0_3 (t : Nat) (h : t < 10) : m__law_turns_right [z "ca", z "da", zt "ca" "da" "zz", .dat (.int t)] [] = .ok (.dat (.bl true)) [] := turns_ok (pt_0_3 t) (ge_0_3 t) gk_0_3 (List.all_eq_true.mp tr_0_3 t (List.mem_range.mpr h))
theorem st_1_0 : m__law_stays_right [z "m", z "n", z "ok", z "bad"] [] = .ok (.dat (.bl true)) [] := isTN_eq (by decide +kernel)
theorem op_1_0 : m__law_opens_right [z "m", z "n", z "ok", z "bad"] [] = .ok (.dat (.bl true)) [] := isTN_eq (by decide +kernel)
def ls_1_0 : List D := [.str "cell m ok bad zz", .str "cell n ok bad zz", .str "group g", .str "  check a 1", .str "    if m = ok", .str "      set m bad", .str "    else", .str "      if m = bad", .str "        set m zz", .str "      else", .str "        set m ok", .str "  check b 1", .str "    copy m to n", .str "  check v 1", .str "    if n = zz", .str "      fail"]
def tx_1_0 : Str := "cell m ok bad zz\ncell n ok bad zz\ngroup g\n  check a 1\n    if m = ok\n      set m bad\n    else\n      if m = bad\n        set m zz\n      else\n        set m ok\n  check b 1\n    copy m to n\n  check v 1\n    if n = zz\n      fail"
def gl_1_0 : D := getD (newAll "Glass" 2 m_Glass___init__ false [z tx_1_0] [])
theorem gk_1_0 : newAll "Glass" 2 m_Glass___init__ false [z tx_1_0] [] = .ok (.dat gl_1_0) [] := isD_eq (by decide +kernel)
theorem pt_1_0 (t : Int) : pre5 (r0 "m" "n" "ok" "bad" t) [] = .nx (r1 "m" "n" "ok" "bad" t ls_1_0) [] := by kernel_rfl
theorem ge_1_0 (t : Int) : glE (r1 "m" "n" "ok" "bad" t ls_1_0) [] = .ok [z tx_1_0] [] := by kernel_rfl
theorem tr_1_0 : (List.range 10).all (fun t => isTN (fin (restT (r2 "m" "n" "ok" "bad" t ls_1_0 gl_1_0) []))) = true := by decide +kernel
theorem tu_1_0 (t : Nat) (h : t < 10) : m__law_turns_right [z "m", z "n", zt "ok" "bad" "zz", .dat (.int t)] [] = .ok (.dat (.bl true)) [] := turns_ok (pt_1_0 t) (ge_1_0 t) gk_1_0 (List.all_eq_true.mp tr_1_0 t (List.mem_range.mpr h))
theorem st_1_1 : m__law_stays_right [z "m", z "n", z "bad", z "ok"] [] = .ok (.dat (.bl true)) [] := isTN_eq (by decide +kernel)
theorem op_1_1 : m__law_opens_right [z "m", z "n", z "bad", z "ok"] [] = .ok (.dat (.bl true)) [] := isTN_eq (by decide +kernel)
def ls_1_1 : List D := [.str "cell m bad ok zz", .str "cell n bad ok zz", .str "group g", .str "  check a 1", .str "    if m = bad", .str "      set m ok", .str "    else", .str "      if m = ok", .str "        set m zz", .str "      else", .str "        set m bad", .str "  check b 1", .str "    copy m to n", .str "  check v 1", .str "    if n = zz", .str "      fail"]
def tx_1_1 : Str := "cell m bad ok zz\ncell n bad ok zz\ngroup g\n  check a 1\n    if m = bad\n      set m ok\n    else\n      if m = ok\n        set m zz\n      else\n        set m bad\n  check b 1\n    copy m to n\n  check v 1\n    if n = zz\n      fail"
def gl_1_1 : D := getD (newAll "Glass" 2 m_Glass___init__ false [z tx_1_1] [])
theorem gk_1_1 : newAll "Glass" 2 m_Glass___init__ false [z tx_1_1] [] = .ok (.dat gl_1_1) [] := isD_eq (by decide +kernel)
theorem pt_1_1 (t : Int) : pre5 (r0 "m" "n" "bad" "ok" t) [] = .nx (r1 "m" "n" "bad" "ok" t ls_1_1) [] := by kernel_rfl
theorem ge_1_1 (t : Int) : glE (r1 "m" "n" "bad" "ok" t ls_1_1) [] = .ok [z tx_1_1] [] := by kernel_rfl
theorem tr_1_1 : (List.range 10).all (fun t => isTN (fin (restT (r2 "m" "n" "bad" "ok" t ls_1_1 gl_1_1) []))) = true := by decide +kernel
theorem tu_1_1 (t : Nat) (h : t < 10) : m__law_turns_right [z "m", z "n", zt "bad" "ok" "zz", .dat (.int t)] [] = .ok (.dat (.bl true)) [] := turns_ok (pt_1_1 t) (ge_1_1 t) gk_1_1 (List.all_eq_true.mp tr_1_1 t (List.mem_range.mpr h))
theorem st_1_2 : m__law_stays_right [z "m", z "n", z "x", z "y"] [] = .ok (.dat (.bl true)) [] := isTN_eq (by decide +kernel)
theorem op_1_2 : m__law_opens_right [z "m", z "n", z "x", z "y"] [] = .ok (.dat (.bl true)) [] := isTN_eq (by decide +kernel)
def ls_1_2 : List D := [.str "cell m x y zz", .str "cell n x y zz", .str "group g", .str "  check a 1", .str "    if m = x", .str "      set m y", .str "    else", .str "      if m = y", .str "        set m zz", .str "      else", .str "        set m x", .str "  check b 1", .str "    copy m to n", .str "  check v 1", .str "    if n = zz", .str "      fail"]
def tx_1_2 : Str := "cell m x y zz\ncell n x y zz\ngroup g\n  check a 1\n    if m = x\n      set m y\n    else\n      if m = y\n        set m zz\n      else\n        set m x\n  check b 1\n    copy m to n\n  check v 1\n    if n = zz\n      fail"
def gl_1_2 : D := getD (newAll "Glass" 2 m_Glass___init__ false [z tx_1_2] [])
theorem gk_1_2 : newAll "Glass" 2 m_Glass___init__ false [z tx_1_2] [] = .ok (.dat gl_1_2) [] := isD_eq (by decide +kernel)
theorem pt_1_2 (t : Int) : pre5 (r0 "m" "n" "x" "y" t) [] = .nx (r1 "m" "n" "x" "y" t ls_1_2) [] := by kernel_rfl
theorem ge_1_2 (t : Int) : glE (r1 "m" "n" "x" "y" t ls_1_2) [] = .ok [z tx_1_2] [] := by kernel_rfl
theorem tr_1_2 : (List.range 10).all (fun t => isTN (fin (restT (r2 "m" "n" "x" "y" t ls_1_2 gl_1_2) []))) = true := by decide +kernel
theorem tu_1_2 (t : Nat) (h : t < 10) : m__law_turns_right [z "m", z "n", zt "x" "y" "zz", .dat (.int t)] [] = .ok (.dat (.bl true)) [] := turns_ok (pt_1_2 t) (ge_1_2 t) gk_1_2 (List.all_eq_true.mp tr_1_2 t (List.mem_range.mpr h))
theorem st_1_3 : m__law_stays_right [z "m", z "n", z "m", z "n"] [] = .ok (.dat (.bl true)) [] := isTN_eq (by decide +kernel)
theorem op_1_3 : m__law_opens_right [z "m", z "n", z "m", z "n"] [] = .ok (.dat (.bl true)) [] := isTN_eq (by decide +kernel)
def ls_1_3 : List D := [.str "cell m m n zz", .str "cell n m n zz", .str "group g", .str "  check a 1", .str "    if m = m", .str "      set m n", .str "    else", .str "      if m = n", .str "        set m zz", .str "      else", .str "        set m m", .str "  check b 1", .str "    copy m to n", .str "  check v 1", .str "    if n = zz", .str "      fail"]
def tx_1_3 : Str := "cell m m n zz\ncell n m n zz\ngroup g\n  check a 1\n    if m = m\n      set m n\n    else\n      if m = n\n        set m zz\n      else\n        set m m\n  check b 1\n    copy m to n\n  check v 1\n    if n = zz\n      fail"
def gl_1_3 : D := getD (newAll "Glass" 2 m_Glass___init__ false [z tx_1_3] [])
theorem gk_1_3 : newAll "Glass" 2 m_Glass___init__ false [z tx_1_3] [] = .ok (.dat gl_1_3) [] := isD_eq (by decide +kernel)
theorem pt_1_3 (t : Int) : pre5 (r0 "m" "n" "m" "n" t) [] = .nx (r1 "m" "n" "m" "n" t ls_1_3) [] := by kernel_rfl
theorem ge_1_3 (t : Int) : glE (r1 "m" "n" "m" "n" t ls_1_3) [] = .ok [z tx_1_3] [] := by kernel_rfl
theorem tr_1_3 : (List.range 10).all (fun t => isTN (fin (restT (r2 "m" "n" "m" "n" t ls_1_3 gl_1_3) []))) = true := by decide +kernel
theorem tu_1_3 (t : Nat) (h : t < 10) : m__law_turns_right [z "m", z "n", zt "m" "n" "zz", .dat (.int t)] [] = .ok (.dat (.bl true)) [] := turns_ok (pt_1_3 t) (ge_1_3 t) gk_1_3 (List.all_eq_true.mp tr_1_3 t (List.mem_range.mpr h))
theorem st_2_0 : m__law_stays_right [z "n", z "m", z "ok", z "bad"] [] = .ok (.dat (.bl true)) [] := isTN_eq (by decide +kernel)
theorem op_2_0 : m__law_opens_right [z "n", z "m", z "ok", z "bad"] [] = .ok (.dat (.bl true)) [] := isTN_eq (by decide +kernel)
def ls_2_0 : List D := [.str "cell n ok bad zz", .str "cell m ok bad zz", .str "group g", .str "  check a 1", .str "    if n = ok", .str "      set n bad", .str "    else", .str "      if n = bad", .str "        set n zz", .str "      else", .str "        set n ok", .str "  check b 1", .str "    copy n to m", .str "  check v 1", .str "    if m = zz", .str "      fail"]
def tx_2_0 : Str := "cell n ok bad zz\ncell m ok bad zz\ngroup g\n  check a 1\n    if n = ok\n      set n bad\n    else\n      if n = bad\n        set n zz\n      else\n        set n ok\n  check b 1\n    copy n to m\n  check v 1\n    if m = zz\n      fail"
def gl_2_0 : D := getD (newAll "Glass" 2 m_Glass___init__ false [z tx_2_0] [])
theorem gk_2_0 : newAll "Glass" 2 m_Glass___init__ false [z tx_2_0] [] = .ok (.dat gl_2_0) [] := isD_eq (by decide +kernel)
theorem pt_2_0 (t : Int) : pre5 (r0 "n" "m" "ok" "bad" t) [] = .nx (r1 "n" "m" "ok" "bad" t ls_2_0) [] := by kernel_rfl
theorem ge_2_0 (t : Int) : glE (r1 "n" "m" "ok" "bad" t ls_2_0) [] = .ok [z tx_2_0] [] := by kernel_rfl
theorem tr_2_0 : (List.range 10).all (fun t => isTN (fin (restT (r2 "n" "m" "ok" "bad" t ls_2_0 gl_2_0) []))) = true := by decide +kernel
theorem tu_2_0 (t : Nat) (h : t < 10) : m__law_turns_right [z "n", z "m", zt "ok" "bad" "zz", .dat (.int t)] [] = .ok (.dat (.bl true)) [] := turns_ok (pt_2_0 t) (ge_2_0 t) gk_2_0 (List.all_eq_true.mp tr_2_0 t (List.mem_range.mpr h))
theorem st_2_1 : m__law_stays_right [z "n", z "m", z "bad", z "ok"] [] = .ok (.dat (.bl true)) [] := isTN_eq (by decide +kernel)
theorem op_2_1 : m__law_opens_right [z "n", z "m", z "bad", z "ok"] [] = .ok (.dat (.bl true)) [] := isTN_eq (by decide +kernel)
def ls_2_1 : List D := [.str "cell n bad ok zz", .str "cell m bad ok zz", .str "group g", .str "  check a 1", .str "    if n = bad", .str "      set n ok", .str "    else", .str "      if n = ok", .str "        set n zz", .str "      else", .str "        set n bad", .str "  check b 1", .str "    copy n to m", .str "  check v 1", .str "    if m = zz", .str "      fail"]
def tx_2_1 : Str := "cell n bad ok zz\ncell m bad ok zz\ngroup g\n  check a 1\n    if n = bad\n      set n ok\n    else\n      if n = ok\n        set n zz\n      else\n        set n bad\n  check b 1\n    copy n to m\n  check v 1\n    if m = zz\n      fail"
def gl_2_1 : D := getD (newAll "Glass" 2 m_Glass___init__ false [z tx_2_1] [])
theorem gk_2_1 : newAll "Glass" 2 m_Glass___init__ false [z tx_2_1] [] = .ok (.dat gl_2_1) [] := isD_eq (by decide +kernel)
theorem pt_2_1 (t : Int) : pre5 (r0 "n" "m" "bad" "ok" t) [] = .nx (r1 "n" "m" "bad" "ok" t ls_2_1) [] := by kernel_rfl
theorem ge_2_1 (t : Int) : glE (r1 "n" "m" "bad" "ok" t ls_2_1) [] = .ok [z tx_2_1] [] := by kernel_rfl
theorem tr_2_1 : (List.range 10).all (fun t => isTN (fin (restT (r2 "n" "m" "bad" "ok" t ls_2_1 gl_2_1) []))) = true := by decide +kernel
theorem tu_2_1 (t : Nat) (h : t < 10) : m__law_turns_right [z "n", z "m", zt "bad" "ok" "zz", .dat (.int t)] [] = .ok (.dat (.bl true)) [] := turns_ok (pt_2_1 t) (ge_2_1 t) gk_2_1 (List.all_eq_true.mp tr_2_1 t (List.mem_range.mpr h))
theorem st_2_2 : m__law_stays_right [z "n", z "m", z "x", z "y"] [] = .ok (.dat (.bl true)) [] := isTN_eq (by decide +kernel)
theorem op_2_2 : m__law_opens_right [z "n", z "m", z "x", z "y"] [] = .ok (.dat (.bl true)) [] := isTN_eq (by decide +kernel)
def ls_2_2 : List D := [.str "cell n x y zz", .str "cell m x y zz", .str "group g", .str "  check a 1", .str "    if n = x", .str "      set n y", .str "    else", .str "      if n = y", .str "        set n zz", .str "      else", .str "        set n x", .str "  check b 1", .str "    copy n to m", .str "  check v 1", .str "    if m = zz", .str "      fail"]
def tx_2_2 : Str := "cell n x y zz\ncell m x y zz\ngroup g\n  check a 1\n    if n = x\n      set n y\n    else\n      if n = y\n        set n zz\n      else\n        set n x\n  check b 1\n    copy n to m\n  check v 1\n    if m = zz\n      fail"
def gl_2_2 : D := getD (newAll "Glass" 2 m_Glass___init__ false [z tx_2_2] [])
theorem gk_2_2 : newAll "Glass" 2 m_Glass___init__ false [z tx_2_2] [] = .ok (.dat gl_2_2) [] := isD_eq (by decide +kernel)
theorem pt_2_2 (t : Int) : pre5 (r0 "n" "m" "x" "y" t) [] = .nx (r1 "n" "m" "x" "y" t ls_2_2) [] := by kernel_rfl
theorem ge_2_2 (t : Int) : glE (r1 "n" "m" "x" "y" t ls_2_2) [] = .ok [z tx_2_2] [] := by kernel_rfl
theorem tr_2_2 : (List.range 10).all (fun t => isTN (fin (restT (r2 "n" "m" "x" "y" t ls_2_2 gl_2_2) []))) = true := by decide +kernel
theorem tu_2_2 (t : Nat) (h : t < 10) : m__law_turns_right [z "n", z "m", zt "x" "y" "zz", .dat (.int t)] [] = .ok (.dat (.bl true)) [] := turns_ok (pt_2_2 t) (ge_2_2 t) gk_2_2 (List.all_eq_true.mp tr_2_2 t (List.mem_range.mpr h))
theorem st_2_3 : m__law_stays_right [z "n", z "m", z "n", z "m"] [] = .ok (.dat (.bl true)) [] := isTN_eq (by decide +kernel)
theorem op_2_3 : m__law_opens_right [z "n", z "m", z "n", z "m"] [] = .ok (.dat (.bl true)) [] := isTN_eq (by decide +kernel)
def ls_2_3 : List D := [.str "cell n n m zz", .str "cell m n m zz", .str "group g", .str "  check a 1", .str "    if n = n", .str "      set n m", .str "    else", .str "      if n = m", .str "        set n zz", .str "      else", .str "        set n n", .str "  check b 1", .str "    copy n to m", .str "  check v 1", .str "    if m = zz", .str "      fail"]
def tx_2_3 : Str := "cell n n m zz\ncell m n m zz\ngroup g\n  check a 1\n    if n = n\n      set n m\n    else\n      if n = m\n        set n zz\n      else\n        set n n\n  check b 1\n    copy n to m\n  check v 1\n    if m = zz\n      fail"
def gl_2_3 : D := getD (newAll "Glass" 2 m_Glass___init__ false [z tx_2_3] [])
theorem gk_2_3 : newAll "Glass" 2 m_Glass___init__ false [z tx_2_3] [] = .ok (.dat gl_2_3) [] := isD_eq (by decide +kernel)
theorem pt_2_3 (t : Int) : pre5 (r0 "n" "m" "n" "m" t) [] = .nx (r1 "n" "m" "n" "m" t ls_2_3) [] := by kernel_rfl
theorem ge_2_3 (t : Int) : glE (r1 "n" "m" "n" "m" t ls_2_3) [] = .ok [z tx_2_3] [] := by kernel_rfl
theorem tr_2_3 : (List.range 10).all (fun t => isTN (fin (restT (r2 "n" "m" "n" "m" t ls_2_3 gl_2_3) []))) = true := by decide +kernel
theorem tu_2_3 (t : Nat) (h : t < 10) : m__law_turns_right [z "n", z "m", zt "n" "m" "zz", .dat (.int t)] [] = .ok (.dat (.bl true)) [] := turns_ok (pt_2_3 t) (ge_2_3 t) gk_2_3 (List.all_eq_true.mp tr_2_3 t (List.mem_range.mpr h))
theorem st_3_0 : m__law_stays_right [z "cells", z "sets", z "ok", z "bad"] [] = .ok (.dat (.bl true)) [] := isTN_eq (by decide +kernel)
theorem op_3_0 : m__law_opens_right [z "cells", z "sets", z "ok", z "bad"] [] = .ok (.dat (.bl true)) [] := isTN_eq (by decide +kernel)
def ls_3_0 : List D := [.str "cell cells ok bad zz", .str "cell sets ok bad zz", .str "group g", .str "  check a 1", .str "    if cells = ok", .str "      set cells bad", .str "    else", .str "      if cells = bad", .str "        set cells zz", .str "      else", .str "        set cells ok", .str "  check b 1", .str "    copy cells to sets", .str "  check v 1", .str "    if sets = zz", .str "      fail"]
def tx_3_0 : Str := "cell cells ok bad zz\ncell sets ok bad zz\ngroup g\n  check a 1\n    if cells = ok\n      set cells bad\n    else\n      if cells = bad\n        set cells zz\n      else\n        set cells ok\n  check b 1\n    copy cells to sets\n  check v 1\n    if sets = zz\n      fail"
def gl_3_0 : D := getD (newAll "Glass" 2 m_Glass___init__ false [z tx_3_0] [])
theorem gk_3_0 : newAll "Glass" 2 m_Glass___init__ false [z tx_3_0] [] = .ok (.dat gl_3_0) [] := isD_eq (by decide +kernel)
theorem pt_3_0 (t : Int) : pre5 (r0 "cells" "sets" "ok" "bad" t) [] = .nx (r1 "cells" "sets" "ok" "bad" t ls_3_0) [] := by kernel_rfl
theorem ge_3_0 (t : Int) : glE (r1 "cells" "sets" "ok" "bad" t ls_3_0) [] = .ok [z tx_3_0] [] := by kernel_rfl
theorem tr_3_0 : (List.range 10).all (fun t => isTN (fin (restT (r2 "cells" "sets" "ok" "bad" t ls_3_0 gl_3_0) []))) = true := by decide +kernel
theorem tu_3_0 (t : Nat) (h : t < 10) : m__law_turns_right [z "cells", z "sets", zt "ok" "bad" "zz", .dat (.int t)] [] = .ok (.dat (.bl true)) [] := turns_ok (pt_3_0 t) (ge_3_0 t) gk_3_0 (List.all_eq_true.mp tr_3_0 t (List.mem_range.mpr h))
theorem st_3_1 : m__law_stays_right [z "cells", z "sets", z "bad", z "ok"] [] = .ok (.dat (.bl true)) [] := isTN_eq (by decide +kernel)
theorem op_3_1 : m__law_opens_right [z "cells", z "sets", z "bad", z "ok"] [] = .ok (.dat (.bl true)) [] := isTN_eq (by decide +kernel)
def ls_3_1 : List D := [.str "cell cells bad ok zz", .str "cell sets bad ok zz", .str "group g", .str "  check a 1", .str "    if cells = bad", .str "      set cells ok", .str "    else", .str "      if cells = ok", .str "        set cells zz", .str "      else", .str "        set cells bad", .str "  check b 1", .str "    copy cells to sets", .str "  check v 1", .str "    if sets = zz", .str "      fail"]
def tx_3_1 : Str := "cell cells bad ok zz\ncell sets bad ok zz\ngroup g\n  check a 1\n    if cells = bad\n      set cells ok\n    else\n      if cells = ok\n        set cells zz\n      else\n        set cells bad\n  check b 1\n    copy cells to sets\n  check v 1\n    if sets = zz\n      fail"
def gl_3_1 : D := getD (newAll "Glass" 2 m_Glass___init__ false [z tx_3_1] [])
theorem gk_3_1 : newAll "Glass" 2 m_Glass___init__ false [z tx_3_1] [] = .ok (.dat gl_3_1) [] := isD_eq (by decide +kernel)
theorem pt_3_1 (t : Int) : pre5 (r0 "cells" "sets" "bad" "ok" t) [] = .nx (r1 "cells" "sets" "bad" "ok" t ls_3_1) [] := by kernel_rfl
theorem ge_3_1 (t : Int) : glE (r1 "cells" "sets" "bad" "ok" t ls_3_1) [] = .ok [z tx_3_1] [] := by kernel_rfl
theorem tr_3_1 : (List.range 10).all (fun t => isTN (fin (restT (r2 "cells" "sets" "bad" "ok" t ls_3_1 gl_3_1) []))) = true := by decide +kernel
theorem tu_3_1 (t : Nat) (h : t < 10) : m__law_turns_right [z "cells", z "sets", zt "bad" "ok" "zz", .dat (.int t)] [] = .ok (.dat (.bl true)) [] := turns_ok (pt_3_1 t) (ge_3_1 t) gk_3_1 (List.all_eq_true.mp tr_3_1 t (List.mem_range.mpr h))
theorem st_3_2 : m__law_stays_right [z "cells", z "sets", z "x", z "y"] [] = .ok (.dat (.bl true)) [] := isTN_eq (by decide +kernel)
theorem op_3_2 : m__law_opens_right [z "cells", z "sets", z "x", z "y"] [] = .ok (.dat (.bl true)) [] := isTN_eq (by decide +kernel)
def ls_3_2 : List D := [.str "cell cells x y zz", .str "cell sets x y zz", .str "group g", .str "  check a 1", .str "    if cells = x", .str "      set cells y", .str "    else", .str "      if cells = y", .str "        set cells zz", .str "      else", .str "        set cells x", .str "  check b 1", .str "    copy cells to sets", .str "  check v 1", .str "    if sets = zz", .str "      fail"]
def tx_3_2 : Str := "cell cells x y zz\ncell sets x y zz\ngroup g\n  check a 1\n    if cells = x\n      set cells y\n    else\n      if cells = y\n        set cells zz\n      else\n        set cells x\n  check b 1\n    copy cells to sets\n  check v 1\n    if sets = zz\n      fail"
def gl_3_2 : D := getD (newAll "Glass" 2 m_Glass___init__ false [z tx_3_2] [])
theorem gk_3_2 : newAll "Glass" 2 m_Glass___init__ false [z tx_3_2] [] = .ok (.dat gl_3_2) [] := isD_eq (by decide +kernel)
theorem pt_3_2 (t : Int) : pre5 (r0 "cells" "sets" "x" "y" t) [] = .nx (r1 "cells" "sets" "x" "y" t ls_3_2) [] := by kernel_rfl
theorem ge_3_2 (t : Int) : glE (r1 "cells" "sets" "x" "y" t ls_3_2) [] = .ok [z tx_3_2] [] := by kernel_rfl
theorem tr_3_2 : (List.range 10).all (fun t => isTN (fin (restT (r2 "cells" "sets" "x" "y" t ls_3_2 gl_3_2) []))) = true := by decide +kernel
theorem tu_3_2 (t : Nat) (h : t < 10) : m__law_turns_right [z "cells", z "sets", zt "x" "y" "zz", .dat (.int t)] [] = .ok (.dat (.bl true)) [] := turns_ok (pt_3_2 t) (ge_3_2 t) gk_3_2 (List.all_eq_true.mp tr_3_2 t (List.mem_range.mpr h))
theorem st_3_3 : m__law_stays_right [z "cells", z "sets", z "cells", z "sets"] [] = .ok (.dat (.bl true)) [] := isTN_eq (by decide +kernel)
theorem op_3_3 : m__law_opens_right [z "cells", z "sets", z "cells", z "sets"] [] = .ok (.dat (.bl true)) [] := isTN_eq (by decide +kernel)
def ls_3_3 : List D := [.str "cell cells cells sets zz", .str "cell sets cells sets zz", .str "group g", .str "  check a 1", .str "    if cells = cells", .str "      set cells sets", .str "    else", .str "      if cells = sets", .str "        set cells zz", .str "      else", .str "        set cells cells", .str "  check b 1", .str "    copy cells to sets", .str "  check v 1", .str "    if sets = zz", .str "      fail"]
def tx_3_3 : Str := "cell cells cells sets zz\ncell sets cells sets zz\ngroup g\n  check a 1\n    if cells = cells\n      set cells sets\n    else\n      if cells = sets\n        set cells zz\n      else\n        set cells cells\n  check b 1\n    copy cells to sets\n  check v 1\n    if sets = zz\n      fail"
def gl_3_3 : D := getD (newAll "Glass" 2 m_Glass___init__ false [z tx_3_3] [])
theorem gk_3_3 : newAll "Glass" 2 m_Glass___init__ false [z tx_3_3] [] = .ok (.dat gl_3_3) [] := isD_eq (by decide +kernel)
theorem pt_3_3 (t : Int) : pre5 (r0 "cells" "sets" "cells" "sets" t) [] = .nx (r1 "cells" "sets" "cells" "sets" t ls_3_3) [] := by kernel_rfl
theorem ge_3_3 (t : Int) : glE (r1 "cells" "sets" "cells" "sets" t ls_3_3) [] = .ok [z tx_3_3] [] := by kernel_rfl
theorem tr_3_3 : (List.range 10).all (fun t => isTN (fin (restT (r2 "cells" "sets" "cells" "sets" t ls_3_3 gl_3_3) []))) = true := by decide +kernel
theorem tu_3_3 (t : Nat) (h : t < 10) : m__law_turns_right [z "cells", z "sets", zt "cells" "sets" "zz", .dat (.int t)] [] = .ok (.dat (.bl true)) [] := turns_ok (pt_3_3 t) (ge_3_3 t) gk_3_3 (List.all_eq_true.mp tr_3_3 t (List.mem_range.mpr h))
end G

namespace G
open PySem PySem.Spec PyProof.Rows L2 L2.DL
theorem fx {w : World} {K : PySem.W.Frag} {h : Heap} {mg : Str → Option Value} (X : K.In h) (G : h.Ns mainGlobals mg) (c : SaysX fa bs fn K) : @Fx ⟨w⟩ K mg :=
  letI : HasW := ⟨w⟩
  {
    n_len := He.free_ok X G (c.fact 0 (f := .free "len") rfl),
    n_min := He.free_ok X G (c.fact 1 (f := .free "min") rfl),
    n_max := He.free_ok X G (c.fact 2 (f := .free "max") rfl),
    n_range := He.free_ok X G (c.fact 3 (f := .free "range") rfl),
    n_abs := He.free_ok X G (c.fact 4 (f := .free "abs") rfl),
    n_int := He.free_ok X G (c.fact 5 (f := .free "int") rfl),
    d__law_jar := ⟨c.def_ 0 (d := fn_0), He.glo_ok X G (c.fact 6 (f := .glo "_law_jar") rfl)⟩,
    d__law_take := ⟨c.def_ 1 (d := fn_1), He.glo_ok X G (c.fact 7 (f := .glo "_law_take") rfl)⟩,
    d__law_of := ⟨c.def_ 2 (d := fn_2), He.glo_ok X G (c.fact 8 (f := .glo "_law_of") rfl)⟩,
    n_isinstance := He.free_ok X G (c.fact 9 (f := .free "isinstance") rfl),
    n_str := He.free_ok X G (c.fact 10 (f := .free "str") rfl),
    x_BadText := (let ⟨fd, z1, z2⟩ := supB_ok (P := PW) (st := fn_3.st) (c.tru 0 (b := (fun K => supB PW.main.file K (He.ga K "BadText") (He.ma K (He.ga K "BadText") "__init__") "BadText.__init__" (fieldOf "BadText"))) rfl) (c.obs 3 (d := fn_3)) (by decide +kernel); ⟨fd, z1, z2, He.glo_ok X G (c.fact 11 (f := .glo "BadText") rfl)⟩),
    cl_Glass := He.cls_ok (c.fact 12 (f := .cls "Glass") rfl),
    na_Glass_own_text := He.noat_ok (c.fact 13 (f := .noat "Glass" "own_text") rfl),
    c_FEED := He.str_ok X G (c.fact 14 (f := .str "FEED" "\n") rfl),
    c_BLANK := He.str_ok X G (c.fact 15 (f := .str "BLANK" " ") rfl),
    c_STEP := He.int_ok X G (c.fact 16 (f := .int "STEP" (2)) rfl),
    d_split_line := ⟨c.def_ 4 (d := fn_4), He.glo_ok X G (c.fact 17 (f := .glo "split_line") rfl)⟩,
    cl_Source := He.cls_ok (c.fact 18 (f := .cls "Source") rfl),
    na_Source_split_lines := He.noat_ok (c.fact 19 (f := .noat "Source" "split_lines") rfl),
    na_Source_at := He.noat_ok (c.fact 20 (f := .noat "Source" "at") rfl),
    na_Source_words_of := He.noat_ok (c.fact 21 (f := .noat "Source" "words_of") rfl),
    na_Source_shared_names := He.noat_ok (c.fact 22 (f := .noat "Source" "shared_names") rfl),
    na_Source_told_groups := He.noat_ok (c.fact 23 (f := .noat "Source" "told_groups") rfl),
    na_Source_opens := He.noat_ok (c.fact 24 (f := .noat "Source" "opens") rfl),
    na_Source_closes := He.noat_ok (c.fact 25 (f := .noat "Source" "closes") rfl),
    na_Source_told_checks := He.noat_ok (c.fact 26 (f := .noat "Source" "told_checks") rfl),
    d_Source___init__ := c.def_ 5 (d := fn_5),
    mk_Source := He.mkr_ok (c.fact 27 (f := .mkr "Source") rfl),
    g_Source := He.glo_ok X G (c.fact 28 (f := .glo "Source") rfl),
    na_Glass_source := He.noat_ok (c.fact 29 (f := .noat "Glass" "source") rfl),
    d_Source_is_next := c.def_ 6 (d := fn_6),
    me_Source_is_next := He.meth_ok (c.fact 30 (f := .meth "Source" "is_next") rfl),
    c_SHARED := He.str_ok X G (c.fact 31 (f := .str "SHARED" "shared") rfl),
    c_CELL := He.str_ok X G (c.fact 32 (f := .str "CELL" "cell") rfl),
    d_Source_demand := c.def_ 7 (d := fn_7),
    me_Source_demand := He.meth_ok (c.fact 33 (f := .meth "Source" "demand") rfl),
    c_LEAST_CELL := He.int_ok X G (c.fact 34 (f := .int "LEAST_CELL" (4)) rfl),
    c_MOST_CELL := He.int_ok X G (c.fact 35 (f := .int "MOST_CELL" (5)) rfl),
    c_MOST_SIGNS := He.int_ok X G (c.fact 36 (f := .int "MOST_SIGNS" (8)) rfl),
    c_SMALL := He.str_ok X G (c.fact 37 (f := .str "SMALL" "abcdefghijklmnopqrstuvwxyz") rfl),
    n_all := He.free_ok X G (c.fact 38 (f := .free "all") rfl),
    d_is_name := ⟨c.def_ 8 (d := fn_8), He.glo_ok X G (c.fact 39 (f := .glo "is_name") rfl)⟩,
    t_RESERVED := ⟨He.glo_ok X G (c.fact 40 (f := .glo "RESERVED") rfl), fun F => RelD.tup (He.tupB_ok (c.tru 1 (b := (fun K => He.tupB K "RESERVED" [.str "cell", .str "shared", .str "group", .str "open", .str "close", .str "check", .str "set", .str "copy", .str "to", .str "want", .str "fail", .str "if", .str "else"])) rfl) F) (.cons (.str _) (.cons (.str _) (.cons (.str _) (.cons (.str _) (.cons (.str _) (.cons (.str _) (.cons (.str _) (.cons (.str _) (.cons (.str _) (.cons (.str _) (.cons (.str _) (.cons (.str _) (.cons (.str _) (.nil))))))))))))))⟩,
    d_is_plain := ⟨c.def_ 9 (d := fn_9), He.glo_ok X G (c.fact 41 (f := .glo "is_plain") rfl)⟩,
    n_set := He.free_ok X G (c.fact 42 (f := .free "set") rfl),
    c_MOST_CELLS := He.int_ok X G (c.fact 43 (f := .int "MOST_CELLS" (8)) rfl),
    d_Source_take := c.def_ 10 (d := fn_10),
    me_Source_take := He.meth_ok (c.fact 44 (f := .meth "Source" "take") rfl),
    n_tuple := He.free_ok X G (c.fact 45 (f := .free "tuple") rfl),
    d_Source_read_cell := c.def_ 11 (d := fn_11),
    me_Source_read_cell := He.meth_ok (c.fact 46 (f := .meth "Source" "read_cell") rfl),
    c_GROUP := He.str_ok X G (c.fact 47 (f := .str "GROUP" "group") rfl),
    c_MOST_GROUPS_glasses := He.int_ok X G (c.fact 48 (f := .int "MOST_GROUPS_glasses" (3)) rfl),
    c_PAIR_glasses := He.int_ok X G (c.fact 49 (f := .int "PAIR_glasses" (2)) rfl),
    c_EDGE_DEEP := He.int_ok X G (c.fact 50 (f := .int "EDGE_DEEP" (1)) rfl),
    t_COMMANDS := ⟨He.glo_ok X G (c.fact 51 (f := .glo "COMMANDS") rfl), fun F => RelD.tup (He.tupB_ok (c.tru 2 (b := (fun K => He.tupB K "COMMANDS" [.str "set", .str "copy", .str "want", .str "fail", .str "if"])) rfl) F) (.cons (.str _) (.cons (.str _) (.cons (.str _) (.cons (.str _) (.cons (.str _) (.nil))))))⟩,
    c_MOST_COMMANDS := He.int_ok X G (c.fact 52 (f := .int "MOST_COMMANDS" (10)) rfl),
    c_IF := He.str_ok X G (c.fact 53 (f := .str "IF" "if") rfl),
    c_QUADRUPLE := He.int_ok X G (c.fact 54 (f := .int "QUADRUPLE" (4)) rfl),
    c_IS := He.str_ok X G (c.fact 55 (f := .str "IS" "=") rfl),
    d_Source_has_cell := c.def_ 12 (d := fn_12),
    me_Source_has_cell := He.meth_ok (c.fact 56 (f := .meth "Source" "has_cell") rfl),
    c_ELSE := He.str_ok X G (c.fact 57 (f := .str "ELSE" "else") rfl),
    d_Source_read_if := c.def_ 13 (d := fn_13),
    me_Source_read_if := He.meth_ok (c.fact 58 (f := .meth "Source" "read_if") rfl),
    c_COPY := He.str_ok X G (c.fact 59 (f := .str "COPY" "copy") rfl),
    c_TO := He.str_ok X G (c.fact 60 (f := .str "TO" "to") rfl),
    c_FAIL := He.str_ok X G (c.fact 61 (f := .str "FAIL" "fail") rfl),
    c_SET := He.str_ok X G (c.fact 62 (f := .str "SET" "set") rfl),
    c_TRIPLE := He.int_ok X G (c.fact 63 (f := .int "TRIPLE" (3)) rfl),
    d_Source_read_command := c.def_ 14 (d := fn_14),
    me_Source_read_command := He.meth_ok (c.fact 64 (f := .meth "Source" "read_command") rfl),
    d_Source_read_block := c.def_ 15 (d := fn_15),
    me_Source_read_block := He.meth_ok (c.fact 65 (f := .meth "Source" "read_block") rfl),
    c_MOST_IFS := He.int_ok X G (c.fact 66 (f := .int "MOST_IFS" (2)) rfl),
    c_CLOSE := He.str_ok X G (c.fact 67 (f := .str "CLOSE" "close") rfl),
    c_COMMAND_DEEP := He.int_ok X G (c.fact 68 (f := .int "COMMAND_DEEP" (2)) rfl),
    d_Source_read_edge := c.def_ 16 (d := fn_16),
    me_Source_read_edge := He.meth_ok (c.fact 69 (f := .meth "Source" "read_edge") rfl),
    c_OPEN := He.str_ok X G (c.fact 70 (f := .str "OPEN" "open") rfl),
    c_CHECK := He.str_ok X G (c.fact 71 (f := .str "CHECK" "check") rfl),
    c_MOST_CHECKS_glasses := He.int_ok X G (c.fact 72 (f := .int "MOST_CHECKS_glasses" (8)) rfl),
    t_EDITIONS := ⟨He.glo_ok X G (c.fact 73 (f := .glo "EDITIONS") rfl), fun F => RelD.tup (He.tupB_ok (c.tru 3 (b := (fun K => He.tupB K "EDITIONS" [.str "1", .str "2", .str "3", .str "4", .str "5", .str "6", .str "7", .str "8", .str "9"])) rfl) F) (.cons (.str _) (.cons (.str _) (.cons (.str _) (.cons (.str _) (.cons (.str _) (.cons (.str _) (.cons (.str _) (.cons (.str _) (.cons (.str _) (.nil))))))))))⟩,
    c_MOST_ITEMS := He.int_ok X G (c.fact 74 (f := .int "MOST_ITEMS" (5)) rfl),
    d_Source_read_check := c.def_ 17 (d := fn_17),
    me_Source_read_check := He.meth_ok (c.fact 75 (f := .meth "Source" "read_check") rfl),
    n_sorted := He.free_ok X G (c.fact 76 (f := .free "sorted") rfl),
    d_Source_read_group := c.def_ 18 (d := fn_18),
    me_Source_read_group := He.meth_ok (c.fact 77 (f := .meth "Source" "read_group") rfl),
    d_Source_read_all := c.def_ 19 (d := fn_19),
    me_Source_read_all := He.meth_ok (c.fact 78 (f := .meth "Source" "read_all") rfl),
    d_is_tuple := ⟨c.def_ 20 (d := fn_20), He.glo_ok X G (c.fact 79 (f := .glo "is_tuple") rfl)⟩,
    c_MOST_GROUPS_shops := He.int_ok X G (c.fact 80 (f := .int "MOST_GROUPS_shops" (3)) rfl),
    c_PAIR_shops := He.int_ok X G (c.fact 81 (f := .int "PAIR_shops" (2)) rfl),
    n_zip := He.free_ok X G (c.fact 82 (f := .free "zip") rfl),
    d_is_ascending := ⟨c.def_ 21 (d := fn_21), He.glo_ok X G (c.fact 83 (f := .glo "is_ascending") rfl)⟩,
    d_are_names := ⟨c.def_ 22 (d := fn_22), He.glo_ok X G (c.fact 84 (f := .glo "are_names") rfl)⟩,
    c_MOST_IN_A_GROUP := He.int_ok X G (c.fact 85 (f := .int "MOST_IN_A_GROUP" (4)) rfl),
    d_is_group := ⟨c.def_ 23 (d := fn_23), He.glo_ok X G (c.fact 86 (f := .glo "is_group") rfl)⟩,
    c_MOST_CHECKS_shops := He.int_ok X G (c.fact 87 (f := .int "MOST_CHECKS_shops" (5)) rfl),
    n_enumerate := He.free_ok X G (c.fact 88 (f := .free "enumerate") rfl),
    d_are_different := ⟨c.def_ 24 (d := fn_24), He.glo_ok X G (c.fact 89 (f := .glo "are_different") rfl)⟩,
    d_are_groups := ⟨c.def_ 25 (d := fn_25), He.glo_ok X G (c.fact 90 (f := .glo "are_groups") rfl)⟩,
    x_BadShop := (let ⟨fd, z1, z2⟩ := supB_ok (P := PW) (st := fn_26.st) (c.tru 4 (b := (fun K => supB PW.main.file K (He.ga K "BadShop") (He.ma K (He.ga K "BadShop") "__init__") "BadShop.__init__" (fieldOf "BadShop"))) rfl) (c.obs 26 (d := fn_26)) (by decide +kernel); ⟨fd, z1, z2, He.glo_ok X G (c.fact 91 (f := .glo "BadShop") rfl)⟩),
    cl_Shop := He.cls_ok (c.fact 92 (f := .cls "Shop") rfl),
    na_Shop_own_groups := He.noat_ok (c.fact 93 (f := .noat "Shop" "own_groups") rfl),
    na_Shop_group_by_check := He.noat_ok (c.fact 94 (f := .noat "Shop" "group_by_check") rfl),
    d_Shop___init__ := c.def_ 27 (d := fn_27),
    mk_Shop := He.mkr_ok (c.fact 95 (f := .mkr "Shop") rfl),
    g_Shop := He.glo_ok X G (c.fact 96 (f := .glo "Shop") rfl),
    na_Glass_own_shop := He.noat_ok (c.fact 97 (f := .noat "Glass" "own_shop") rfl),
    d_Glass___init__ := c.def_ 28 (d := fn_28),
    mk_Glass := He.mkr_ok (c.fact 98 (f := .mkr "Glass") rfl),
    g_Glass := He.glo_ok X G (c.fact 99 (f := .glo "Glass") rfl),
    c_MOST_RUNS := He.int_ok X G (c.fact 100 (f := .int "MOST_RUNS" (12)) rfl),
    n_bool := He.free_ok X G (c.fact 101 (f := .free "bool") rfl),
    d_is_integer := ⟨c.def_ 29 (d := fn_29), He.glo_ok X G (c.fact 102 (f := .glo "is_integer") rfl)⟩,
    d_Glass_is_item := c.def_ 30 (d := fn_30),
    me_Glass_is_item := He.meth_ok (c.fact 103 (f := .meth "Glass" "is_item") rfl),
    x_BadOrder := (let ⟨fd, z1, z2⟩ := supB_ok (P := PW) (st := fn_31.st) (c.tru 5 (b := (fun K => supB PW.main.file K (He.ga K "BadOrder") (He.ma K (He.ga K "BadOrder") "__init__") "BadOrder.__init__" (fieldOf "BadOrder"))) rfl) (c.obs 31 (d := fn_31)) (by decide +kernel); ⟨fd, z1, z2, He.glo_ok X G (c.fact 104 (f := .glo "BadOrder") rfl)⟩),
    d_is_between := ⟨c.def_ 32 (d := fn_32), He.glo_ok X G (c.fact 105 (f := .glo "is_between") rfl)⟩,
    c_MOST_WORKERS := He.int_ok X G (c.fact 106 (f := .int "MOST_WORKERS" (3)) rfl),
    x_BadMany := (let ⟨fd, z1, z2⟩ := supB_ok (P := PW) (st := fn_33.st) (c.tru 6 (b := (fun K => supB PW.main.file K (He.ga K "BadMany") (He.ma K (He.ga K "BadMany") "__init__") "BadMany.__init__" (fieldOf "BadMany"))) rfl) (c.obs 33 (d := fn_33)) (by decide +kernel); ⟨fd, z1, z2, He.glo_ok X G (c.fact 107 (f := .glo "BadMany") rfl)⟩),
    d_Glass_cells := c.def_ 34 (d := fn_34),
    pr_Glass_cells := propB_ok (c.tru 7 (b := (fun K => propB K "Glass" "cells")) rfl),
    d_Glass_names_of := c.def_ 35 (d := fn_35),
    me_Glass_names_of := He.meth_ok (c.fact 108 (f := .meth "Glass" "names_of") rfl),
    d_Glass_first_words := c.def_ 36 (d := fn_36),
    me_Glass_first_words := He.meth_ok (c.fact 109 (f := .meth "Glass" "first_words") rfl),
    c_NO_GROUP := He.str_ok X G (c.fact 110 (f := .str "NO_GROUP" "") rfl),
    d_Glass_start := c.def_ 37 (d := fn_37),
    me_Glass_start := He.meth_ok (c.fact 111 (f := .meth "Glass" "start") rfl),
    x_NoWorker := (let ⟨fd, z1, z2⟩ := supB_ok (P := PW) (st := fn_38.st) (c.tru 8 (b := (fun K => supB PW.main.file K (He.ga K "NoWorker") (He.ma K (He.ga K "NoWorker") "__init__") "NoWorker.__init__" (fieldOf "NoWorker"))) rfl) (c.obs 38 (d := fn_38)) (by decide +kernel); ⟨fd, z1, z2, He.glo_ok X G (c.fact 112 (f := .glo "NoWorker") rfl)⟩),
    d_Glass_check_worker := c.def_ 39 (d := fn_39),
    me_Glass_check_worker := He.meth_ok (c.fact 113 (f := .meth "Glass" "check_worker") rfl),
    x_NoItem := (let ⟨fd, z1, z2⟩ := supB_ok (P := PW) (st := fn_40.st) (c.tru 9 (b := (fun K => supB PW.main.file K (He.ga K "NoItem") (He.ma K (He.ga K "NoItem") "__init__") "NoItem.__init__" (fieldOf "NoItem"))) rfl) (c.obs 40 (d := fn_40)) (by decide +kernel); ⟨fd, z1, z2, He.glo_ok X G (c.fact 114 (f := .glo "NoItem") rfl)⟩),
    n_dict := He.free_ok X G (c.fact 115 (f := .free "dict") rfl),
    d_is_word := ⟨c.def_ 41 (d := fn_41), He.glo_ok X G (c.fact 116 (f := .glo "is_word") rfl)⟩,
    x_NoCheck := (let ⟨fd, z1, z2⟩ := supB_ok (P := PW) (st := fn_42.st) (c.tru 10 (b := (fun K => supB PW.main.file K (He.ga K "NoCheck") (He.ma K (He.ga K "NoCheck") "__init__") "NoCheck.__init__" (fieldOf "NoCheck"))) rfl) (c.obs 42 (d := fn_42)) (by decide +kernel); ⟨fd, z1, z2, He.glo_ok X G (c.fact 117 (f := .glo "NoCheck") rfl)⟩),
    d_Shop_group_of := c.def_ 43 (d := fn_43),
    me_Shop_group_of := He.meth_ok (c.fact 118 (f := .meth "Shop" "group_of") rfl),
    d_fails := ⟨c.def_ 44 (d := fn_44), He.glo_ok X G (c.fact 119 (f := .glo "fails") rfl)⟩,
    c_SKIP := He.str_ok X G (c.fact 120 (f := .str "SKIP" "skip") rfl),
    c_PASS := He.str_ok X G (c.fact 121 (f := .str "PASS" "pass") rfl),
    d_Glass_run_on := c.def_ 45 (d := fn_45),
    me_Glass_run_on := He.meth_ok (c.fact 122 (f := .meth "Glass" "run_on") rfl),
    d_Glass_after := c.def_ 46 (d := fn_46),
    me_Glass_after := He.meth_ok (c.fact 123 (f := .meth "Glass" "after") rfl),
    d_Glass_outcomes := c.def_ 47 (d := fn_47),
    me_Glass_outcomes := He.meth_ok (c.fact 124 (f := .meth "Glass" "outcomes") rfl),
    d_Glass_freshened := c.def_ 48 (d := fn_48),
    me_Glass_freshened := He.meth_ok (c.fact 125 (f := .meth "Glass" "freshened") rfl),
    d_Glass_cleared := c.def_ 49 (d := fn_49),
    me_Glass_cleared := He.meth_ok (c.fact 126 (f := .meth "Glass" "cleared") rfl),
    d__law_stays_right := ⟨c.def_ 50 (d := fn_50), He.glo_ok X G (c.fact 127 (f := .glo "_law_stays_right") rfl)⟩,
    d__law_opens_right := ⟨c.def_ 51 (d := fn_51), He.glo_ok X G (c.fact 128 (f := .glo "_law_opens_right") rfl)⟩,
    d__law_turns_right := ⟨c.def_ 52 (d := fn_52), He.glo_ok X G (c.fact 129 (f := .glo "_law_turns_right") rfl)⟩,
    d_law := ⟨c.def_ 53 (d := fn_53), He.glo_ok X G (c.fact 130 (f := .glo "law") rfl)⟩ }
end G

namespace G
open PySem PySem.Spec PyProof.Rows L2 L2.DL
theorem jar_eq : m__law_jar = jarM := rfl
theorem of_eq : m__law_of = ofM := rfl
theorem take_eq : m__law_take = takeM := rfl
theorem callTake {m : Ev → M (List Vl)} {ρ : Ev} {G : Gh} {a b c n : Int} (hb0 : 0 ≤ b) (hb1 : b < 2305843009213693921) (hc0 : 0 ≤ c) (hc1 : c < 1000) (hl : 0 < n) (hl2 : n < 1073741824) (h : m ρ (G ++ [Jr a b c]) = .ok [.ref G.length, .dat (.int n)] (G ++ [Jr a b c])) :
    ∃ (a' c' r : Int), 0 ≤ r ∧ r < n ∧ 0 ≤ c' ∧ c' ≤ c + 1 ∧ callF 2 takeM m ρ (G ++ [Jr a b c]) = .ok (.dat (.int r)) (G ++ [Jr a' b c']) := by
  obtain ⟨a', c', r, h1, h2, h3, h4, h5⟩ := takeM_ok a b c n hb0 hb1 hc0 hc1 hl hl2
  refine ⟨a', c', r, h1, h2, h3, h4, ?_⟩
  unfold callF
  simp only [andThen, h]
  unfold callAt
  rw [if_pos (show [Vl.ref G.length, Vl.dat (D.int n)].length = 2 from rfl)]
  have e : mapO (pickOne (G ++ [Jr a b c])) (refsOf [Vl.ref G.length, Vl.dat (D.int n)]) = some [Jr a b c] := by
    show mapO (pickOne (G ++ [Jr a b c])) [G.length] = _
    unfold mapO pickOne
    rw [pick_last]
    rfl
  rw [e]
  show (if ([G.length] : List Nat).Nodup then back (G ++ [Jr a b c]) [G.length] (takeM [.ref 0, .dat (.int n)] [Jr a b c]) else Rs.no) = _
  rw [if_pos (by simp)]
  have h5' : takeM [.ref 0, .dat (.int n)] [Jr a b c] = .ok (.dat (.int r)) [Jr a' b c'] := h5
  rw [h5']
  unfold back
  dsimp only
  rw [if_pos (show [Jr a' b c'].all flatGO = true from rfl), if_pos (show [Jr a' b c'].length = [G.length].length from rfl)]
  show Rs.ok _ ((G ++ [Jr a b c]).set G.length (Jr a' b c')) = _
  rw [set_last]
theorem callDat2 {n : Nat} {f : FD} {m : Ev → M (List Vl)} {ρ : Ev} {G G' : Gh} {ds : List D} {d : D} (hn : ds.length = n) (h : m ρ G = .ok (ds.map .dat) G') (hf : f (ds.map .dat) [] = .ok (.dat d) []) : callF n f m ρ G = .ok (.dat d) G' := by
  have e := callDat (n := n) (f := f) (m := fun _ G0 => .ok (ds.map .dat) G0) (ρ := ρ) (G := G') hn rfl hf
  rw [← e]
  unfold callF
  simp only [andThen, h]
def csD : List D := [.tup [.str "ca", .str "da"], .tup [.str "m", .str "n"], .tup [.str "n", .str "m"], .tup [.str "cells", .str "sets"]]
def usD (c d : Str) : List D := [.tup [.str "ok", .str "bad"], .tup [.str "bad", .str "ok"], .tup [.str "x", .str "y"], .tup [.str c, .str d]]
def condT : Ev → M Bool := (orT (notT (bD (callF 4 m__law_stays_right (consA (vD 3) (consA (vD 4) (consA (vD 5) (consA (vD 6) nilA))))))) (notT (bD (callF 4 m__law_opens_right (consA (vD 3) (consA (vD 4) (consA (vD 5) (consA (vD 6) nilA))))))))
def argT : Ev → M (List Vl) := (consA (vD 3) (consA (vD 4) (consA (tupE (consA (vD 5) (consA (vD 6) (consA (cD (.str "zz")) nilA)))) (consA (callF 2 takeM (consA (vD 2) (consA (cD (.int 10)) nilA))) nilA))))
def condU : Ev → M Bool := notT (bD (callF 4 m__law_turns_right argT))
abbrev Yes (r : Rs Vl) : Prop := r = .ok (.dat (.bl true)) []
theorem cond_ok {c d u w : Str} (h1 : Yes (m__law_stays_right [z c, z d, z u, z w] [])) (h2 : Yes (m__law_opens_right [z c, z d, z u, z w] []))
    (ρ : Ev) (G : Gh) (e3 : ρ[3]? = some (some (z c))) (e4 : ρ[4]? = some (some (z d))) (e5 : ρ[5]? = some (some (z u))) (e6 : ρ[6]? = some (some (z w))) : condT ρ G = .ok false G := by
  have v3 : vD 3 ρ G = .ok (z c) G := vD_ok e3
  have v4 : vD 4 ρ G = .ok (z d) G := vD_ok e4
  have v5 : vD 5 ρ G = .ok (z u) G := vD_ok e5
  have v6 : vD 6 ρ G = .ok (z w) G := vD_ok e6
  have a4 : consA (vD 3) (consA (vD 4) (consA (vD 5) (consA (vD 6) nilA))) ρ G = .ok ([D.str c, .str d, .str u, .str w].map .dat) G := by
    simp only [consA, andThen, v3, v4, v5, v6, nilA, DL.ret, List.map]
  have c1 := callDat (n := 4) rfl a4 h1
  have c2 := callDat (n := 4) rfl a4 h2
  simp only [condT, orT, notT, bD, andThen, c1, c2, trueD, DL.ret, Bool.not_true, Bool.false_eq_true, if_false]
theorem condU_ok {c d u w : Str} (h : ∀ t : Nat, t < 10 → Yes (m__law_turns_right [z c, z d, zt u w "zz", .dat (.int t)] [])) {x0 x1 : Option Vl} {G : Gh} {a b k : Int} (hb0 : 0 ≤ b) (hb1 : b < 2305843009213693921) (hc0 : 0 ≤ k) (hc1 : k < 1000) :
    ∃ a' k', condU [x0, x1, some (.ref G.length), some (z c), some (z d), some (z u), some (z w)] (G ++ [Jr a b k]) = .ok false (G ++ [Jr a' b k']) := by
  obtain ⟨a', k', r, r0, r1, _, _, ht⟩ := callTake (m := consA (vD 2) (consA (cD (.int 10)) nilA)) (ρ := [x0, x1, some (.ref G.length), some (z c), some (z d), some (z u), some (z w)]) (G := G) (a := a) (b := b) (c := k) (n := 10) hb0 hb1 hc0 hc1 (by decide) (by decide) rfl
  refine ⟨a', k', ?_⟩
  have er : ((r.toNat : Nat) : Int) = r := Int.toNat_of_nonneg r0
  have hy := h r.toNat (by omega)
  rw [er] at hy
  have tp : tupE (consA (vD 5) (consA (vD 6) (consA (cD (.str "zz")) nilA))) [x0, x1, some (.ref G.length), some (z c), some (z d), some (z u), some (z w)] (G ++ [Jr a b k]) = .ok (zt u w "zz") (G ++ [Jr a b k]) := rfl
  have v3 : vD 3 [x0, x1, some (.ref G.length), some (z c), some (z d), some (z u), some (z w)] (G ++ [Jr a b k]) = .ok (z c) (G ++ [Jr a b k]) := rfl
  have v4 : vD 4 [x0, x1, some (.ref G.length), some (z c), some (z d), some (z u), some (z w)] (G ++ [Jr a b k]) = .ok (z d) (G ++ [Jr a b k]) := rfl
  have ha : argT [x0, x1, some (.ref G.length), some (z c), some (z d), some (z u), some (z w)] (G ++ [Jr a b k]) = .ok ([D.str c, .str d, .tup [.str u, .str w, .str "zz"], .int r].map .dat) (G ++ [Jr a' b k']) := by
    unfold argT
    simp only [consA, andThen, v3, v4]
    simp only [tp, ht, nilA, DL.ret, List.map]
  have c1 := callDat2 (n := 4) (f := m__law_turns_right) rfl ha hy
  simp only [condU, notT, bD, andThen, c1, trueD, DL.ret, Bool.not_true]
theorem cases_ok {d1 d2 : D} (h1 : d1 ∈ csD) : ∃ c d : Str, d1 = .tup [.str c, .str d] ∧ (d2 ∈ usD c d → ∃ u w : Str, d2 = .tup [.str u, .str w] ∧ Yes (m__law_stays_right [z c, z d, z u, z w] []) ∧ Yes (m__law_opens_right [z c, z d, z u, z w] []) ∧ ∀ t : Nat, t < 10 → Yes (m__law_turns_right [z c, z d, zt u w "zz", .dat (.int t)] [])) := by
  simp only [csD, List.mem_cons, List.not_mem_nil, or_false] at h1
  rcases h1 with rfl | rfl | rfl | rfl
  · refine ⟨_, _, rfl, fun h2 => ?_⟩
    simp only [usD, List.mem_cons, List.not_mem_nil, or_false] at h2
    rcases h2 with rfl | rfl | rfl | rfl
    · exact ⟨_, _, rfl, st_0_0, op_0_0, tu_0_0⟩
    · exact ⟨_, _, rfl, st_0_1, op_0_1, tu_0_1⟩
    · exact ⟨_, _, rfl, st_0_2, op_0_2, tu_0_2⟩
    · exact ⟨_, _, rfl, st_0_3, op_0_3, tu_0_3⟩
  · refine ⟨_, _, rfl, fun h2 => ?_⟩
    simp only [usD, List.mem_cons, List.not_mem_nil, or_false] at h2
    rcases h2 with rfl | rfl | rfl | rfl
    · exact ⟨_, _, rfl, st_1_0, op_1_0, tu_1_0⟩
    · exact ⟨_, _, rfl, st_1_1, op_1_1, tu_1_1⟩
    · exact ⟨_, _, rfl, st_1_2, op_1_2, tu_1_2⟩
    · exact ⟨_, _, rfl, st_1_3, op_1_3, tu_1_3⟩
  · refine ⟨_, _, rfl, fun h2 => ?_⟩
    simp only [usD, List.mem_cons, List.not_mem_nil, or_false] at h2
    rcases h2 with rfl | rfl | rfl | rfl
    · exact ⟨_, _, rfl, st_2_0, op_2_0, tu_2_0⟩
    · exact ⟨_, _, rfl, st_2_1, op_2_1, tu_2_1⟩
    · exact ⟨_, _, rfl, st_2_2, op_2_2, tu_2_2⟩
    · exact ⟨_, _, rfl, st_2_3, op_2_3, tu_2_3⟩
  · refine ⟨_, _, rfl, fun h2 => ?_⟩
    simp only [usD, List.mem_cons, List.not_mem_nil, or_false] at h2
    rcases h2 with rfl | rfl | rfl | rfl
    · exact ⟨_, _, rfl, st_3_0, op_3_0, tu_3_0⟩
    · exact ⟨_, _, rfl, st_3_1, op_3_1, tu_3_1⟩
    · exact ⟨_, _, rfl, st_3_2, op_3_2, tu_3_2⟩
    · exact ⟨_, _, rfl, st_3_3, op_3_3, tu_3_3⟩
def csE : Ev → M Vl := (lstE (consA (tupE (consA (cD (.str "ca")) (consA (cD (.str "da")) nilA))) (consA (tupE (consA (cD (.str "m")) (consA (cD (.str "n")) nilA))) (consA (tupE (consA (cD (.str "n")) (consA (cD (.str "m")) nilA))) (consA (tupE (consA (cD (.str "cells")) (consA (cD (.str "sets")) nilA))) nilA)))))
def usE : Ev → M Vl := (lstE (consA (tupE (consA (cD (.str "ok")) (consA (cD (.str "bad")) nilA))) (consA (tupE (consA (cD (.str "bad")) (consA (cD (.str "ok")) nilA))) (consA (tupE (consA (cD (.str "x")) (consA (cD (.str "y")) nilA))) (consA (tupE (consA (vD 3) (consA (vD 4) nilA))) nilA)))))
def bodyS : SD := seqS (setS 2 (callF 2 jarM (consA (vD 0) (consA (vD 1) nilA))))
    (seqS (asgS (callF 2 ofM (consA (vD 2) (consA csE nilA))) (tupG 2 (consG (nameG 3) (consG (nameG 4) nilG))))
    (seqS (asgS (callF 2 ofM (consA (vD 2) (consA usE nilA))) (tupG 2 (consG (nameG 5) (consG (nameG 6) nilG))))
    (seqS (ifS condT (retS (cD (.bl false))) nextS)
    (ifS condU (retS (cD (.bl false))) nextS))))
def Iv (ns : List Int) (ρ : Ev) : Prop := ρ.length = 7 ∧ ρ[0]? = some (some (.dat (.lst (ns.map .int))))
theorem ev7 {ρ : Ev} (h : ρ.length = 7) : ∃ a b c d e f g, ρ = [a, b, c, d, e, f, g] := by
  match ρ, h with
  | [a, b, c, d, e, f, g], _ => exact ⟨a, b, c, d, e, f, g, rfl⟩
theorem body_ok {ns : List Int} (hl : ns.length ≤ 63) {ρ : Ev} {G : Gh} {k : Nat} (hk : k ≤ 1000) (hI : Iv ns ρ) (h1 : ρ[1]? = some (some (.dat (.int k)))) : ∃ ρ2 G2, bodyS ρ G = .nx ρ2 G2 ∧ Iv ns ρ2 := by
  obtain ⟨h7, h0⟩ := hI
  obtain ⟨x0, x1, x2, x3, x4, x5, x6, rfl⟩ := ev7 h7
  simp only [List.getElem?_cons_zero, List.getElem?_cons_succ, Option.some.injEq] at h0 h1
  subst h0 h1
  obtain ⟨a, b, hb0, hb1, hj⟩ := callJar (m := consA (vD 0) (consA (vD 1) nilA)) (ρ := [some (.dat (.lst (ns.map .int))), some (.dat (.int k)), x2, x3, x4, x5, x6]) (G := G) hk hl rfl
  have o1 := callOf (m := consA (vD 2) (consA csE nilA)) (ρ := [some (.dat (.lst (ns.map .int))), some (.dat (.int k)), some (.ref G.length), x3, x4, x5, x6]) (G := G) (a := a) (b := b) (c := 0) (l := csD) hb0 hb1 (by decide) (by decide) (by decide) (by decide) rfl
  obtain ⟨a1, c1, d1, m1, p1, q1, o1⟩ := o1
  obtain ⟨c, d, e1, next⟩ := cases_ok (d1 := d1) (d2 := .non) m1
  have o2 := callOf (m := consA (vD 2) (consA usE nilA)) (ρ := [some (.dat (.lst (ns.map .int))), some (.dat (.int k)), some (.ref G.length), some (z c), some (z d), x5, x6]) (G := G) (a := a1) (b := b) (c := c1) (l := usD c d) hb0 hb1 p1 (by omega) (show 0 < 4 by decide) (show 4 < 1073741824 by decide) rfl
  obtain ⟨a2, c2, d2, m2, p2, q2, o2⟩ := o2
  obtain ⟨c', d', e1', next⟩ := cases_ok (d1 := d1) (d2 := d2) m1
  rw [e1] at e1'
  simp only [D.tup.injEq, List.cons.injEq, D.str.injEq, and_true] at e1'
  obtain ⟨ec, ed⟩ := e1'
  subst ec ed
  obtain ⟨u, w, e2, y1, y2, y3⟩ := next m2
  obtain ⟨a3, c3, cu⟩ := condU_ok (x0 := some (.dat (.lst (ns.map .int)))) (x1 := some (.dat (.int k))) (G := G) (a := a2) (b := b) (k := c2) y3 hb0 hb1 p2 (by omega)
  refine ⟨[some (.dat (.lst (ns.map .int))), some (.dat (.int k)), some (.ref G.length), some (z c), some (z d), some (z u), some (z w)], G ++ [Jr a3 b c3], ?_, rfl, rfl⟩
  have cq := cond_ok y1 y2 [some (.dat (.lst (ns.map .int))), some (.dat (.int k)), some (.ref G.length), some (z c), some (z d), some (z u), some (z w)] (G ++ [Jr a2 b c2]) rfl rfl rfl rfl
  subst e1 e2
  have s1 : setS 2 (callF 2 jarM (consA (vD 0) (consA (vD 1) nilA))) [some (.dat (.lst (ns.map .int))), some (.dat (.int k)), x2, x3, x4, x5, x6] G = .nx [some (.dat (.lst (ns.map .int))), some (.dat (.int k)), some (.ref G.length), x3, x4, x5, x6] (G ++ [Jr a b 0]) := by
    unfold setS thenS
    rw [hj]
    rfl
  have s2 : asgS (callF 2 ofM (consA (vD 2) (consA csE nilA))) (tupG 2 (consG (nameG 3) (consG (nameG 4) nilG))) [some (.dat (.lst (ns.map .int))), some (.dat (.int k)), some (.ref G.length), x3, x4, x5, x6] (G ++ [Jr a b 0]) = .nx [some (.dat (.lst (ns.map .int))), some (.dat (.int k)), some (.ref G.length), some (z c), some (z d), x5, x6] (G ++ [Jr a1 b c1]) := by
    unfold asgS thenS
    rw [o1]
    rfl
  have s3 : asgS (callF 2 ofM (consA (vD 2) (consA usE nilA))) (tupG 2 (consG (nameG 5) (consG (nameG 6) nilG))) [some (.dat (.lst (ns.map .int))), some (.dat (.int k)), some (.ref G.length), some (z c), some (z d), x5, x6] (G ++ [Jr a1 b c1]) = .nx [some (.dat (.lst (ns.map .int))), some (.dat (.int k)), some (.ref G.length), some (z c), some (z d), some (z u), some (z w)] (G ++ [Jr a2 b c2]) := by
    unfold asgS thenS
    rw [o2]
    rfl
  unfold bodyS
  simp only [seqS, s1, s2, s3, ifS, thenS, cq, cu, Bool.false_eq_true, if_false, nextS]
theorem law_eq : m_law = runD false 7 (seqS (forS manyS (nameG 1) bodyS) (retS (cD (.bl true)))) := rfl
theorem law_ok (ns : List Int) (hl : ns.length ≤ 63) : m_law [.dat (.lst (ns.map D.int))] [] = .ok (.dat (.bl true)) [] := by
  rw [law_eq]
  obtain ⟨ρ0, e0⟩ : ∃ ρ0 : Ev, ρ0 = startE 7 [.dat (.lst (ns.map D.int))] := ⟨_, rfl⟩
  have v0 : vD 0 ρ0 [] = .ok (.dat (.lst (ns.map .int))) [] := by rw [e0]; rfl
  obtain ⟨n, hn, src⟩ := manyS_ok v0
  have I0 : Iv ns ρ0 := by rw [e0]; exact ⟨rfl, rfl⟩
  obtain ⟨ρ2, G2, h1, _⟩ := loop_ok (body := bodyS) (g := nameG 1) (S := rngS 0 n) (Iv ns) (fun _ => rfl) (fun t ρ G ht hI => by
    obtain ⟨h7, h0⟩ := hI
    refine ⟨.dat (.int (0 + t)), ρ.set 1 (some (.dat (.int (0 + t)))), rfl, rfl, ?_⟩
    have ht' : t < n := ht
    have e : ((0 : Int) + (t : Int)) = ((t : Nat) : Int) := by omega
    rw [e]
    exact body_ok hl (k := t) (by omega) ⟨by simp [h7], by rw [List.getElem?_set_ne (by decide)]; exact h0⟩ (by rw [List.getElem?_set_self (by omega)])) n 0 ρ0 [] (by show 0 + n = n; omega) I0
  have hfor : forS manyS (nameG 1) bodyS ρ0 [] = .nx ρ2 G2 := by
    unfold forS thenS
    rw [src]
    exact h1
  unfold runD
  rw [← e0]
  unfold seqS
  rw [hfor]
  rfl
end G
open PySem PySem.W PySem.Calls PyProof.Rows
theorem PySem.Challenge.cw_spoilorder_k28_commands_known_by_hand_holds : PySem.Challenge.rw_spoilorder_k28_commands_known_by_hand.Holds := by
  w_on; o_law
  refine HandSHeadRun.head_any (r := OpenLaw.row PySem.Challenge.rw_spoilorder_k28_commands_known_by_hand) (q := view (OpenLaw.row PySem.Challenge.rw_spoilorder_k28_commands_known_by_hand).prog [81]) (H := G.hk) (ob := G.ob) (M := 6000) (loose := G.loose) (d := HandSHeadRun.topDef (OpenLaw.row PySem.Challenge.rw_spoilorder_k28_commands_known_by_hand).prog 81) (kwd := []) G.ob_eq
    (by kernel_rfl) (fun s => by kernel_rfl) G.run (by kernel_rfl) (by kernel_rfl) (by kernel_rfl) (by rfl) (by first | assumption | decide +kernel) (by decide +kernel) ⟨rfl, rfl, rfl, rfl, rfl, by decide +kernel⟩ ?hw ?hc
  case hw => w_witness2
  case hc =>
    refine L2.DL.walkE (l := PySem.Challenge.rw_spoilorder_k28_commands_known_by_hand) (n := 63) (k := 19) (f := G.m_law) (Says := L2.DL.SaysX G.fa G.bs G.fn) rfl (by decide) (by kernel_rfl) ⟨rfl, by decide, by decide⟩ (fun w h Y => Y) (fun K c => c.all.2.2.2) ?O (fun ns hl _ => G.law_ok ns hl)
    intro w K mg h X N c base
    have e : (HandSHeadRun.topDef (OpenLaw.row PySem.Challenge.rw_spoilorder_k28_commands_known_by_hand).prog 81).name = ("law" : PySem.Str) := by kernel_rfl
    rw [e]
    letI : L2.DL.HasW := ⟨w⟩
    exact G.ok_law (G.fx (w := w) X N c)

