import PyProof.Rows.All
import Wide.All
import OpenK.AllK
import Wide.FinOn
import HandS.Base
import HandS.Call
import HandS.Exc
import HandS.Defaults
import HandS.Head0
import HandS.Head1
import HandS.Head2
import HandS.HeadEnd
import HandS.HeadHook1
import HandS.HeadHook2
import HandS.ForMost
import HandS.Wide
import HandS.IsInst
import HandS.StrMore
import HandS.Style
import HandS.RaiseMore
import HandS.EndBits
import HandS.Deep
import HandS.ReplaceLit
import HandS.ReplaceList
import HandS.ForExc
import HandS.CallSlots
import HandS.TryMany
import HandS.ExcInit
import HandS.Comp
import HandS.Iter
import HandS.TupAny
import HandS.More
import HandS.Zip
import HandS.SlotsOwn
import HandS.ExcField
import HandS.ExcIs
import KE.KExcIs
import HandS.MakeKwOnly
import HandS.ClsMeth
import HandS.NoneIn
import HandS.Conv
import KE.GoesEnum
import KE.KxField
import PyProof.FString3
import HandS.FStr
import KE.KOpsOwn
import KE.KCallOwn
import HandS.SetFor
import KE.OsRunLaw
import HandS.ExcBuiltin
import PySem.Challenge.RW_keysthroughtext_k21_rows_written
set_option Elab.async false
set_option linter.all false
set_option maxRecDepth 100000
set_option maxHeartbeats 4000000

namespace KQ
open PySem PySem.Spec PyProof.Rows L2
/-! ### a head by facts: functions by their names, everything else as Bools over the part -/
abbrev AlB : Type := Bool × List He.FnW
def obsB (fb : PySem.W.Frag → List Bool) (fn : List He.DefD) (K : PySem.W.Frag) : AlB := ((fb K).all id && fn.all fun d => d.ok K, fn.map fun d => He.fnW K d.at_)
def SaysB (fb : PySem.W.Frag → List Bool) (fn : List He.DefD) (K : PySem.W.Frag) : Prop := obsB fb fn K = (true, fn.map He.DefD.val)
def obsBG (as : List Addr) (fb : PySem.W.Frag → List Bool) (fn : List He.DefD) (g : Addr → Option Obj) : AlB := obsB fb fn (He.frG g as)
def hookB (as : List Addr) (fb : PySem.W.Frag → List Bool) (fn : List He.DefD) : PySem.W.Hook where
  α := AlB
  obs := fun s => obsBG as fb fn s.heap.get?
  val := fun _ => (true, fn.map He.DefD.val)
  says := fun _ h => ∃ K : PySem.W.Frag, K.In h ∧ SaysB fb fn K
  of := fun _ _ e => ⟨_, He.frG_in, e⟩
  keeps := fun _ _ _ ⟨K, hK, c⟩ k => ⟨K, PySem.W.Frag.In.keeps hK k, c⟩
theorem obsBG_eq {as : List Addr} {fb : PySem.W.Frag → List Bool} {fn : List He.DefD} {g : Addr → Option Obj} {s : Shared} (h : ∀ a, g a = s.heap.get? a) : obsBG as fb fn g = (hookB as fb fn).obs s := by
  have e : g = s.heap.get? := funext h
  rw [e] <;> rfl
/-- an own exception class under ValueError -/
def oexB (K : PySem.W.Frag) (C : Addr) : Bool := match K.lookup C with
  | some ⟨.type "type", _, .cls cd, sl⟩ => (match cd.mro, sl.toList with
    | .ref C' :: bm, [_, _, _, _, some (.builtin n), _] => C' == C && n == "ValueError.__new__" && !cd.hasDel && cd.hasDict && PySem.HandSPX.refsVE bm
    | _, _ => false)
  | _ => false
/-- an empty tuple -/
def nilB (K : PySem.W.Frag) (a : Addr) : Bool := match K.lookup a with
  | some ⟨.type c, _, .seq its _, _⟩ => decide (c = "tuple") && its.toList.isEmpty
  | _ => false
/-! constants of the module -/
inductive Cs where
  | non
  | bl (b : Bool)
  | int (n : Int)
  | str (z : Str)
  | tup (xs : List Cs)
mutual
def csB (K : PySem.W.Frag) : Cs → Value → Bool
  | .non, u => (match u with | .none => true | _ => false)
  | .bl b, u => (match u with | .bool c => b == c | _ => false)
  | .int n, u => (match u with | .int m _ => decide (n = m) | _ => false)
  | .str z, u => (match u with | .str y _ => decide (z = y) | _ => false)
  | .tup xs, u => (match u with
    | .ref a => (match K.lookup a with
      | some ⟨.type c, _, .seq its _, _⟩ => decide (c = "tuple") && (decide (its.size ≤ sizeLine) && csL K xs its.toList)
      | _ => false)
    | _ => false)
def csL (K : PySem.W.Frag) : List Cs → List Value → Bool
  | [], us => us.isEmpty
  | x :: xs, us => (match us with
    | u :: us => csB K x u && csL K xs us
    | [] => false)
end
def gloB (K : PySem.W.Frag) (x : Str) (t : Cs) : Bool := match PySem.W.nsIn K mainGlobals x with
  | some (some u) => csB K t u
  | _ => false
/-- a constant of a class -/
def conC (K : PySem.W.Frag) (C : Addr) (f : Str) (t : Cs) : Bool := match PySem.W.findCls K (.ref C) (.type "type") f with
  | some (.val u) => csB K t u
  | _ => false
end KQ

namespace K21
open PySem PySem.Spec PyProof.Rows L2 KQ
def topS (i : Nat) : Stmt := PySem.Challenge.pw_keysthroughtext_k21_rows_written.main.body.getD i (.Pass ⟨0, 0, 0, 0⟩)
abbrev s__law_built : Stmt := topS 43
abbrev s__law_long : Stmt := topS 44
abbrev s__law_due : Stmt := topS 45
abbrev s__law_atoms : Stmt := topS 35
abbrev s__law_path_is : Stmt := topS 38
abbrev s__law_pair : Stmt := topS 36
abbrev s__law_raw_alike : Stmt := topS 37
abbrev s__law_raw_agrees : Stmt := topS 40
abbrev s_is_integer : Stmt := topS 12
abbrev s_Writer_raw_pairs : Stmt := inClass (topS 23) 7
abbrev s_Unwritable___init__ : Stmt := inClass (topS 7) 0
abbrev s_Writer_raw_at : Stmt := inClass (topS 23) 5
abbrev s_Writer_raw : Stmt := inClass (topS 23) 3
abbrev s__law_raw_of : Stmt := topS 39
abbrev s__law_more : Stmt := topS 26
abbrev s__law_draw : Stmt := topS 27
abbrev s__law_number : Stmt := topS 28
abbrev s__law_sign : Stmt := topS 29
abbrev s__law_text : Stmt := topS 30
abbrev s__law_leaf : Stmt := topS 31
abbrev s__law_near_long : Stmt := topS 41
abbrev s__law_rows : Stmt := topS 42
abbrev s__law_source : Stmt := topS 25
abbrev s_BadOption___init__ : Stmt := inClass (topS 6) 0
abbrev s_check_options : Stmt := topS 22
abbrev s_Writer___init__ : Stmt := inClass (topS 23) 1
abbrev s__law_writer : Stmt := topS 34
abbrev s__law_pick : Stmt := topS 32
abbrev s__law_writing : Stmt := topS 33
abbrev s_law : Stmt := topS 46
def fbK (K : PySem.W.Frag) : List Bool := [
  decide (PySem.W.nsIn K mainGlobals "abs" = some none),
  decide (PySem.W.nsIn K mainGlobals "all" = some none),
  decide (PySem.W.nsIn K mainGlobals "any" = some none),
  decide (PySem.W.nsIn K mainGlobals "bool" = some none),
  decide (PySem.W.nsIn K mainGlobals "enumerate" = some none),
  decide (PySem.W.nsIn K mainGlobals "int" = some none),
  decide (PySem.W.nsIn K mainGlobals "isinstance" = some none),
  decide (PySem.W.nsIn K mainGlobals "len" = some none),
  decide (PySem.W.nsIn K mainGlobals "list" = some none),
  decide (PySem.W.nsIn K mainGlobals "max" = some none),
  decide (PySem.W.nsIn K mainGlobals "min" = some none),
  decide (PySem.W.nsIn K mainGlobals "range" = some none),
  decide (PySem.W.nsIn K mainGlobals "set" = some none),
  decide (PySem.W.nsIn K mainGlobals "sorted" = some none),
  decide (PySem.W.nsIn K mainGlobals "str" = some none),
  decide (PySem.W.nsIn K mainGlobals "tuple" = some none),
  decide (PySem.W.nsIn K mainGlobals "zip" = some none),
  decide (PySem.W.nsIn K mainGlobals "iter" = some none),
  decide (PySem.W.nsIn K mainGlobals "ValueError" = some none),
  decide (PySem.W.nsIn K mainGlobals "sum" = some none),
  decide (PySem.W.nsIn K mainGlobals "dict" = some none),
  decide (PySem.W.nsIn K mainGlobals "_law_built" = some (some (.ref (He.ga K "_law_built")))),
  decide (PySem.W.nsIn K mainGlobals "_law_long" = some (some (.ref (He.ga K "_law_long")))),
  decide (PySem.W.nsIn K mainGlobals "_law_due" = some (some (.ref (He.ga K "_law_due")))),
  decide (PySem.W.nsIn K mainGlobals "_law_atoms" = some (some (.ref (He.ga K "_law_atoms")))),
  decide (PySem.W.nsIn K mainGlobals "_law_path_is" = some (some (.ref (He.ga K "_law_path_is")))),
  decide (PySem.W.nsIn K mainGlobals "_law_pair" = some (some (.ref (He.ga K "_law_pair")))),
  decide (PySem.W.nsIn K mainGlobals "_law_raw_alike" = some (some (.ref (He.ga K "_law_raw_alike")))),
  decide (PySem.W.nsIn K mainGlobals "_law_raw_agrees" = some (some (.ref (He.ga K "_law_raw_agrees")))),
  decide (PySem.W.nsIn K mainGlobals "is_integer" = some (some (.ref (He.ga K "is_integer")))),
  decide (PySem.W.findIn K (.ref (He.ga K "Writer")) "raw_pairs" = some (some (.ref (He.ma K (He.ga K "Writer") "raw_pairs")))),
  decide (PySem.W.isFn K (.ref (He.ma K (He.ga K "Writer") "raw_pairs")) = true),
  decide (PySem.W.findIn K (.ref (He.ga K "Unwritable")) "__init__" = some (some (.ref (He.ma K (He.ga K "Unwritable") "__init__")))),
  decide (PySem.W.isFn K (.ref (He.ma K (He.ga K "Unwritable") "__init__")) = true),
  decide (PySem.W.findIn K (.ref (He.ga K "Writer")) "raw_at" = some (some (.ref (He.ma K (He.ga K "Writer") "raw_at")))),
  decide (PySem.W.isFn K (.ref (He.ma K (He.ga K "Writer") "raw_at")) = true),
  decide (PySem.W.findIn K (.ref (He.ga K "Writer")) "raw" = some (some (.ref (He.ma K (He.ga K "Writer") "raw")))),
  decide (PySem.W.isFn K (.ref (He.ma K (He.ga K "Writer") "raw")) = true),
  decide (PySem.W.nsIn K mainGlobals "_law_raw_of" = some (some (.ref (He.ga K "_law_raw_of")))),
  decide (PySem.W.nsIn K mainGlobals "_law_more" = some (some (.ref (He.ga K "_law_more")))),
  decide (PySem.W.nsIn K mainGlobals "_law_draw" = some (some (.ref (He.ga K "_law_draw")))),
  decide (PySem.W.nsIn K mainGlobals "_law_number" = some (some (.ref (He.ga K "_law_number")))),
  decide (PySem.W.nsIn K mainGlobals "_law_sign" = some (some (.ref (He.ga K "_law_sign")))),
  decide (PySem.W.nsIn K mainGlobals "_law_text" = some (some (.ref (He.ga K "_law_text")))),
  decide (PySem.W.nsIn K mainGlobals "_law_leaf" = some (some (.ref (He.ga K "_law_leaf")))),
  decide (PySem.W.nsIn K mainGlobals "_law_near_long" = some (some (.ref (He.ga K "_law_near_long")))),
  decide (PySem.W.nsIn K mainGlobals "_law_rows" = some (some (.ref (He.ga K "_law_rows")))),
  decide (PySem.W.nsIn K mainGlobals "_law_source" = some (some (.ref (He.ga K "_law_source")))),
  decide (PySem.W.findIn K (.ref (He.ga K "BadOption")) "__init__" = some (some (.ref (He.ma K (He.ga K "BadOption") "__init__")))),
  decide (PySem.W.isFn K (.ref (He.ma K (He.ga K "BadOption") "__init__")) = true),
  decide (PySem.W.nsIn K mainGlobals "check_options" = some (some (.ref (He.ga K "check_options")))),
  decide (PySem.W.findIn K (.ref (He.ga K "Writer")) "__init__" = some (some (.ref (He.ma K (He.ga K "Writer") "__init__")))),
  decide (PySem.W.isFn K (.ref (He.ma K (He.ga K "Writer") "__init__")) = true),
  decide (PySem.W.nsIn K mainGlobals "_law_writer" = some (some (.ref (He.ga K "_law_writer")))),
  decide (PySem.W.nsIn K mainGlobals "_law_pick" = some (some (.ref (He.ga K "_law_pick")))),
  decide (PySem.W.nsIn K mainGlobals "_law_writing" = some (some (.ref (He.ga K "_law_writing")))),
  decide (PySem.W.nsIn K mainGlobals "law" = some (some (.ref (He.ga K "law")))),
  decide (PySem.W.nsIn K mainGlobals "Table" = some (some (.ref (He.ga K "Table")))),
  decide (PySem.W.plainGet K (He.ga K "Table") Str.empty = true),
  decide (PySem.W.hasDictIn K (He.ga K "Table") = true),
  decide (PySem.W.plainOver K (He.ga K "Table") = true),
  decide (PySem.W.findIn K (.ref (He.ga K "Table")) "__setattr__" = some (some (.builtin "object.__setattr__"))),
  decide (PySem.W.findIn K (.ref (He.ga K "Table")) "__class__" = some (some (.builtin "object.__class__"))),
  decide (PySem.W.specialIn K (.builtin "object.__class__") "__get__" = some (some (.builtin "getset_descriptor.__get__"))),
  decide (PySem.W.takesIn K (.builtin "object.__class__") = some true),
  decide (PySem.W.mroIn K (He.ga K "Table") (.type "object") = some true),
  decide (PySem.W.keepIn K (.ref (He.ga K "Table")) = true),
  decide (PySem.W.makesIn K (He.ga K "Table") = true),
  decide (PySem.W.nsIn K mainGlobals "Writer" = some (some (.ref (He.ga K "Writer")))),
  decide (PySem.W.plainGet K (He.ga K "Writer") Str.empty = true),
  decide (PySem.W.hasDictIn K (He.ga K "Writer") = true),
  decide (PySem.W.plainOver K (He.ga K "Writer") = true),
  decide (PySem.W.findIn K (.ref (He.ga K "Writer")) "__setattr__" = some (some (.builtin "object.__setattr__"))),
  decide (PySem.W.findIn K (.ref (He.ga K "Writer")) "__class__" = some (some (.builtin "object.__class__"))),
  decide (PySem.W.mroIn K (He.ga K "Writer") (.type "object") = some true),
  decide (PySem.W.keepIn K (.ref (He.ga K "Writer")) = true),
  decide (PySem.W.makesIn K (He.ga K "Writer") = true),
  decide (PySem.W.nsIn K mainGlobals "KeysError" = some (some (.ref (He.ga K "KeysError")))),
  decide (PySem.W.nsIn K mainGlobals "BadOption" = some (some (.ref (He.ga K "BadOption")))),
  decide (PySem.W.nsIn K mainGlobals "Unwritable" = some (some (.ref (He.ga K "Unwritable")))),
  oexB K (He.ga K "BadOption"),
  decide (PySem.W.findIn K (.ref (He.ga K "BadOption")) "__setattr__" = some (some (.builtin "object.__setattr__"))),
  decide (PySem.W.subIn K (.ref (He.ga K "BadOption")) (.type "BaseException") = some true),
  decide (PySem.W.typeIn K (.ref (He.ga K "BadOption")) = some (.type "type")),
  decide (PySem.W.keepIn K (.ref (He.ga K "BadOption")) = true),
  oexB K (He.ga K "Unwritable"),
  decide (PySem.W.findIn K (.ref (He.ga K "Unwritable")) "__setattr__" = some (some (.builtin "object.__setattr__"))),
  decide (PySem.W.subIn K (.ref (He.ga K "Unwritable")) (.type "BaseException") = some true),
  decide (PySem.W.typeIn K (.ref (He.ga K "Unwritable")) = some (.type "type")),
  decide (PySem.W.keepIn K (.ref (He.ga K "Unwritable")) = true),
  decide (PySem.W.kitOne K (.type "NoneType") (.ref (He.ga K "Table")) = some false),
  decide (PySem.W.kitOne K (.type "bool") (.ref (He.ga K "Table")) = some false),
  decide (PySem.W.kitOne K (.ref (He.ga K "Table")) (.type "bool") = some false),
  decide (PySem.W.kitOne K (.type "int") (.ref (He.ga K "Table")) = some false),
  decide (PySem.W.kitOne K (.ref (He.ga K "Table")) (.type "int") = some false),
  decide (PySem.W.kitOne K (.type "str") (.ref (He.ga K "Table")) = some false),
  decide (PySem.W.kitOne K (.ref (He.ga K "Table")) (.type "str") = some false),
  decide (PySem.W.kitOne K (.type "list") (.ref (He.ga K "Table")) = some false),
  decide (PySem.W.kitOne K (.ref (He.ga K "Table")) (.type "list") = some false),
  decide (PySem.W.kitOne K (.type "tuple") (.ref (He.ga K "Table")) = some false),
  decide (PySem.W.kitOne K (.ref (He.ga K "Table")) (.type "tuple") = some false),
  decide (PySem.W.kitOne K (.type "dict") (.ref (He.ga K "Table")) = some false),
  decide (PySem.W.kitOne K (.ref (He.ga K "Table")) (.ref (He.ga K "Table")) = some true),
  decide (PySem.W.kitOne K (.ref (He.ga K "Table")) (.ref (He.ga K "Writer")) = some false),
  decide (PySem.W.findIn K (.ref (He.ga K "Writer")) "number_keys" = some none),
  decide (PySem.W.findIn K (.ref (He.ga K "Writer")) "tuples" = some none),
  decide (PySem.W.findIn K (.ref (He.ga K "Writer")) "nulls" = some none),
  decide (PySem.W.findIn K (.ref (He.ga K "Writer")) "double_keys" = some none),
  decide (PySem.W.findIn K (.ref (He.ga K "Writer")) "order" = some none),
  decide (PySem.W.findIn K (.ref (He.ga K "Writer")) "long_numbers" = some none),
  decide (PySem.W.kitOne K (.type "NoneType") (.ref (He.ga K "Writer")) = some false),
  decide (PySem.W.kitOne K (.type "bool") (.ref (He.ga K "Writer")) = some false),
  decide (PySem.W.kitOne K (.ref (He.ga K "Writer")) (.type "bool") = some false),
  decide (PySem.W.kitOne K (.type "int") (.ref (He.ga K "Writer")) = some false),
  decide (PySem.W.kitOne K (.ref (He.ga K "Writer")) (.type "int") = some false),
  decide (PySem.W.kitOne K (.type "str") (.ref (He.ga K "Writer")) = some false),
  decide (PySem.W.kitOne K (.ref (He.ga K "Writer")) (.type "str") = some false),
  decide (PySem.W.kitOne K (.type "list") (.ref (He.ga K "Writer")) = some false),
  decide (PySem.W.kitOne K (.ref (He.ga K "Writer")) (.type "list") = some false),
  decide (PySem.W.kitOne K (.type "tuple") (.ref (He.ga K "Writer")) = some false),
  decide (PySem.W.kitOne K (.ref (He.ga K "Writer")) (.type "tuple") = some false),
  decide (PySem.W.kitOne K (.type "dict") (.ref (He.ga K "Writer")) = some false),
  decide (PySem.W.kitOne K (.ref (He.ga K "Writer")) (.ref (He.ga K "Table")) = some false),
  decide (PySem.W.kitOne K (.ref (He.ga K "Writer")) (.ref (He.ga K "Writer")) = some true),
  decide (PySem.W.readsIn K (He.ga K "Writer") (.type "type") = true),
  decide (PySem.W.specialIn K (.ref (He.ga K "Writer")) "__getattribute__" = some (some (.builtin "type.__getattribute__"))),
  conC K (He.ga K "Writer") "DIGITS" (.int 15),
  decide (PySem.W.findIn K (.ref (He.ga K "BadOption")) "__getattribute__" = some (some (.builtin "BaseException.__getattribute__"))),
  decide (PySem.W.findIn K (.ref (He.ga K "BadOption")) "__getattr__" = some none),
  decide (PySem.W.hasDictIn K (He.ga K "BadOption") = true),
  decide (PySem.W.findIn K (.ref (He.ga K "BadOption")) "__class__" = some (some (.builtin "object.__class__"))),
  decide (PySem.W.mroIn K (He.ga K "BadOption") (.type "object") = some true),
  decide (PySem.W.findIn K (.ref (He.ga K "BadOption")) "name" = some none),
  decide (PySem.W.findIn K (.ref (He.ga K "BadOption")) "value" = some none),
  decide (PySem.W.exmOne K (.ref (He.ga K "BadOption")) (.ref (He.ga K "KeysError")) = some true),
  decide (PySem.W.exmOne K (.ref (He.ga K "BadOption")) (.ref (He.ga K "Unwritable")) = some false),
  decide (PySem.W.findIn K (.ref (He.ga K "Unwritable")) "__getattribute__" = some (some (.builtin "BaseException.__getattribute__"))),
  decide (PySem.W.findIn K (.ref (He.ga K "Unwritable")) "__getattr__" = some none),
  decide (PySem.W.hasDictIn K (He.ga K "Unwritable") = true),
  decide (PySem.W.findIn K (.ref (He.ga K "Unwritable")) "__class__" = some (some (.builtin "object.__class__"))),
  decide (PySem.W.mroIn K (He.ga K "Unwritable") (.type "object") = some true),
  decide (PySem.W.findIn K (.ref (He.ga K "Unwritable")) "reason" = some none),
  decide (PySem.W.findIn K (.ref (He.ga K "Unwritable")) "path" = some none),
  decide (PySem.W.exmOne K (.ref (He.ga K "Unwritable")) (.ref (He.ga K "KeysError")) = some true),
  decide (PySem.W.exmOne K (.ref (He.ga K "Unwritable")) (.ref (He.ga K "Unwritable")) = some true),
  gloB K "WRITER_OPTIONS" (.tup [.tup [.str "number_keys", .tup [.str "text", .str "skip", .str "refuse"]], .tup [.str "tuples", .tup [.str "list", .str "refuse"]], .tup [.str "nulls", .tup [.str "keep", .str "skip"]], .tup [.str "double_keys", .tup [.str "keep", .str "refuse"]], .tup [.str "order", .tup [.str "keep", .str "rising"]], .tup [.str "long_numbers", .tup [.str "keep", .str "text", .str "refuse"]]])]
def fnK : List He.DefD := [
  ⟨("_law_built", none), "_law_built", "_law_built", defArgs s__law_built, defBody s__law_built, defScope s__law_built, [], []⟩,
  ⟨("_law_long", none), "_law_long", "_law_long", defArgs s__law_long, defBody s__law_long, defScope s__law_long, [], []⟩,
  ⟨("_law_due", none), "_law_due", "_law_due", defArgs s__law_due, defBody s__law_due, defScope s__law_due, [], []⟩,
  ⟨("_law_atoms", none), "_law_atoms", "_law_atoms", defArgs s__law_atoms, defBody s__law_atoms, defScope s__law_atoms, [], []⟩,
  ⟨("_law_path_is", none), "_law_path_is", "_law_path_is", defArgs s__law_path_is, defBody s__law_path_is, defScope s__law_path_is, [], []⟩,
  ⟨("_law_pair", none), "_law_pair", "_law_pair", defArgs s__law_pair, defBody s__law_pair, defScope s__law_pair, [], []⟩,
  ⟨("_law_raw_alike", none), "_law_raw_alike", "_law_raw_alike", defArgs s__law_raw_alike, defBody s__law_raw_alike, defScope s__law_raw_alike, [], []⟩,
  ⟨("_law_raw_agrees", none), "_law_raw_agrees", "_law_raw_agrees", defArgs s__law_raw_agrees, defBody s__law_raw_agrees, defScope s__law_raw_agrees, [], []⟩,
  ⟨("is_integer", none), "is_integer", "is_integer", defArgs s_is_integer, defBody s_is_integer, defScope s_is_integer, [], []⟩,
  ⟨("Writer", some "raw_pairs"), "raw_pairs", "Writer.raw_pairs", defArgs s_Writer_raw_pairs, defBody s_Writer_raw_pairs, defScope s_Writer_raw_pairs, [], []⟩,
  ⟨("Unwritable", some "__init__"), "__init__", "Unwritable.__init__", defArgs s_Unwritable___init__, defBody s_Unwritable___init__, defScope s_Unwritable___init__, [], []⟩,
  ⟨("Writer", some "raw_at"), "raw_at", "Writer.raw_at", defArgs s_Writer_raw_at, defBody s_Writer_raw_at, defScope s_Writer_raw_at, [], []⟩,
  ⟨("Writer", some "raw"), "raw", "Writer.raw", defArgs s_Writer_raw, defBody s_Writer_raw, defScope s_Writer_raw, [], []⟩,
  ⟨("_law_raw_of", none), "_law_raw_of", "_law_raw_of", defArgs s__law_raw_of, defBody s__law_raw_of, defScope s__law_raw_of, [], []⟩,
  ⟨("_law_more", none), "_law_more", "_law_more", defArgs s__law_more, defBody s__law_more, defScope s__law_more, [], []⟩,
  ⟨("_law_draw", none), "_law_draw", "_law_draw", defArgs s__law_draw, defBody s__law_draw, defScope s__law_draw, [], []⟩,
  ⟨("_law_number", none), "_law_number", "_law_number", defArgs s__law_number, defBody s__law_number, defScope s__law_number, [], []⟩,
  ⟨("_law_sign", none), "_law_sign", "_law_sign", defArgs s__law_sign, defBody s__law_sign, defScope s__law_sign, [], []⟩,
  ⟨("_law_text", none), "_law_text", "_law_text", defArgs s__law_text, defBody s__law_text, defScope s__law_text, [], []⟩,
  ⟨("_law_leaf", none), "_law_leaf", "_law_leaf", defArgs s__law_leaf, defBody s__law_leaf, defScope s__law_leaf, [], []⟩,
  ⟨("_law_near_long", none), "_law_near_long", "_law_near_long", defArgs s__law_near_long, defBody s__law_near_long, defScope s__law_near_long, [], []⟩,
  ⟨("_law_rows", none), "_law_rows", "_law_rows", defArgs s__law_rows, defBody s__law_rows, defScope s__law_rows, [], []⟩,
  ⟨("_law_source", none), "_law_source", "_law_source", defArgs s__law_source, defBody s__law_source, defScope s__law_source, [], []⟩,
  ⟨("BadOption", some "__init__"), "__init__", "BadOption.__init__", defArgs s_BadOption___init__, defBody s_BadOption___init__, defScope s_BadOption___init__, [], []⟩,
  ⟨("check_options", none), "check_options", "check_options", defArgs s_check_options, defBody s_check_options, defScope s_check_options, [], []⟩,
  ⟨("Writer", some "__init__"), "__init__", "Writer.__init__", defArgs s_Writer___init__, defBody s_Writer___init__, defScope s_Writer___init__, [], [("number_keys", .str "text"), ("tuples", .str "list"), ("nulls", .str "keep"), ("double_keys", .str "keep"), ("order", .str "keep"), ("long_numbers", .str "keep")]⟩,
  ⟨("_law_writer", none), "_law_writer", "_law_writer", defArgs s__law_writer, defBody s__law_writer, defScope s__law_writer, [], []⟩,
  ⟨("_law_pick", none), "_law_pick", "_law_pick", defArgs s__law_pick, defBody s__law_pick, defScope s__law_pick, [], []⟩,
  ⟨("_law_writing", none), "_law_writing", "_law_writing", defArgs s__law_writing, defBody s__law_writing, defScope s__law_writing, [], []⟩,
  ⟨("law", none), "law", "law", defArgs s_law, defBody s_law, defScope s_law, [], []⟩]
def asK : List Addr := [3, 6, 4, 21, 31, 51, 70, 89, 108, 127, 136, 141, 148, 155, 160, 167, 174, 182, 260, 277, 284, 291, 352, 361, 368, 375, 382, 389, 394, 401, 408, 415, 422, 429, 436, 443, 450, 457, 464, 471, 478, 483, 490, 497, 504, 0, 20, 30, 50, 69, 88, 107, 126, 135, 140, 147, 154, 159, 166, 173, 181, 175, 259, 266, 268, 270, 272, 274, 276, 283, 290, 351, 360, 367, 374, 381, 388, 393, 400, 407, 414, 421, 428, 435, 442, 449, 456, 463, 470, 477, 482, 489, 496, 503, 15, 16, 17, 18, 19, 29, 32, 48, 49, 67, 68, 86, 87, 105, 106, 124, 125, 130, 131, 132, 133, 134, 137, 138, 139, 142, 143, 144, 145, 146, 149, 150, 151, 152, 153, 156, 157, 158, 161, 162, 163, 164, 165, 168, 169, 170, 171, 172, 176, 177, 178, 179, 180, 198, 203, 210, 217, 224, 231, 238, 243, 250, 257, 258, 261, 262, 265, 267, 269, 271, 273, 275, 278, 279, 280, 281, 282, 285, 286, 287, 288, 289, 306, 315, 323, 330, 335, 342, 349, 350, 353, 354, 357, 358, 359, 362, 363, 364, 365, 366, 369, 370, 371, 372, 373, 376, 377, 378, 379, 380, 383, 384, 385, 386, 387, 390, 391, 392, 395, 396, 397, 398, 399, 402, 403, 404, 405, 406, 409, 410, 411, 412, 413, 416, 417, 418, 419, 420, 423, 424, 425, 426, 427, 430, 431, 432, 433, 434, 437, 438, 439, 440, 441, 444, 445, 446, 447, 448, 451, 452, 453, 454, 455, 458, 459, 460, 461, 462, 465, 466, 467, 468, 469, 472, 473, 474, 475, 476, 479, 480, 481, 484, 485, 486, 487, 488, 491, 492, 493, 494, 495, 498, 499, 500, 501, 502, 47, 66, 85, 104, 123, 197, 191, 202, 209, 216, 223, 230, 237, 242, 249, 256, 305, 299, 313, 314, 322, 329, 334, 341, 348, 42, 43, 44, 45, 46, 61, 62, 63, 64, 65, 80, 81, 82, 83, 84, 99, 100, 101, 102, 103, 118, 119, 120, 121, 122, 192, 193, 194, 195, 196, 190, 199, 200, 201, 204, 205, 206, 207, 208, 211, 212, 213, 214, 215, 218, 219, 220, 221, 222, 225, 226, 227, 228, 229, 232, 233, 234, 235, 236, 239, 240, 241, 244, 245, 246, 247, 248, 251, 252, 253, 254, 255, 300, 301, 302, 303, 304, 312, 316, 317, 318, 319, 320, 321, 324, 325, 326, 327, 328, 331, 332, 333, 336, 337, 338, 339, 340, 343, 344, 345, 346, 347, 2]
abbrev RK : PySem.W.OpenRow := PySem.W.OpenLaw.row PySem.Challenge.rw_keysthroughtext_k21_rows_written
abbrev hkK : PySem.W.Hook := hookB asK fbK fnK
def obK (s : PySem.W.SharedT) : AlB := obsBG asK fbK fnK (HandSHeadRun.getT s)
theorem obK_eq (s : PySem.W.SharedT) : obK s = hkK.obs s.abs := obsBG_eq (HandSHeadRun.getT_eq s)
def looseK : List PySem.Str := (["_wall", "KeysError", "BadKey", "DoubleKey", "NoKey", "BadOption", "Unwritable", "render_string", "render", "is_integer", "kind", "fresh", "same_rows", "same_tables", "same", "Table", "WRITER_OPTIONS", "key_text", "check_options", "Writer", "_law_source", "_law_more", "_law_draw", "_law_number", "_law_sign", "_law_text", "_law_leaf", "_law_pick", "_law_writing", "_law_writer"] : List PySem.Str) ++ (["_law_atoms", "_law_pair", "_law_raw_alike", "_law_path_is", "_law_raw_of", "_law_raw_agrees", "_law_near_long", "_law_rows", "_law_built", "_law_long", "_law_due"] : List PySem.Str)
set_option maxHeartbeats 0 in
theorem runK (w : World) : HandSHeadRun.RunEq RK (PySem.W.view RK.prog [46]) hkK obK 20000 looseK w := by
  intro os
  kernel_rfl
end K21
namespace KB
open PySem PySem.Spec PyProof.Rows L2
/-! ### defs of the module, called by name -/
structure Def (K : PySem.W.Frag) (mg : Str → Option Value) (x : Str) (st : Stmt) : Prop where
  ex : ∃ (f : Addr) (fd : FuncData), Fun K x x st f fd ∧ mg x = some (.ref f)
structure Callee (P : Program) (w : World) (K : PySem.W.Frag) (mg : Str → Option Value) (base : Heap) (k : Nat) (x : Str) (ps : List Str) (sp : Sp) : Prop where
  ex : ∃ (f : Addr) (fd : FuncData), mg x = some (.ref f) ∧ PySem.W.keepIn K (.ref f) = true ∧ Binds K fd ps [] ∧ FnOk P w K mg base CX0 k f fd ps sp ∧ ∃ oc od osl, K.lookup f = some ⟨oc, od, .func fd, osl⟩
section
variable {P : Program} {w : World} {K : PySem.W.Frag} {mg : Str → Option Value} {base : Heap}
theorem Def.ok {x : Str} {st : Stmt} {N ps : List Str} {k : Nat} {sp : Sp} (D : Def K mg x st) (S : FnScope N ps (defScope st))
    (hb : ∀ (kV doc pm : Value) (an : Option Addr) (cdv ct : Value) (us : List Value), us.length = ps.length → bindArgs (PySem.W.fnOf x x (defArgs st) (defBody st) (defScope st) .none kV doc pm an cdv ct) ⟨us, []⟩ = pure (ps.zip us))
    (len : ∀ vs H Q E, sp vs H Q E → vs.length = ps.length)
    (hbody : ∀ (f : Addr) (cdv : Value) (A : Around) (outer : List Env) (s : Shared) (H : Hp) (vs : List V) (Q : VK) (E : XK), Room k (A.deeper (envOfC x (defScope st) s.heap.objs.size f cdv)) → sp vs H Q E →
      ∃ t, PSs (cxOf CX0 P w K mg base N x (defScope st) f cdv A outer s H E).nox (defBody st) t ∧ t { nx := fun _ H' => Q .non H', rt := Q } (start N vs) H) : Callee P w K mg base (k + 1) x ps sp := by
  obtain ⟨f, fd, F, g⟩ := D.ex
  have E := F.ex
  obtain ⟨oc, od, kV, doc, pm, an, cdv, ct, osl, e, lk, _⟩ := E
  exact ⟨f, fd, g, F.kp, F.binds hb, F.ok S len (hbody f), oc, od, osl, lk⟩
theorem Callee.mono {x : Str} {ps : List Str} {k : Nat} {sp sp' : Sp} (C : Callee P w K mg base k x ps sp) (h : ∀ vs H Q E, sp' vs H Q E → sp vs H Q E) : Callee P w K mg base k x ps sp' := by
  obtain ⟨f, fd, g, kp, b, F, lk⟩ := C.ex
  exact ⟨f, fd, g, kp, b, ⟨fun vs H Q E q => F.len vs H Q E (h _ _ _ _ q), fun A outer s H as us vs Q E hr e hb r q => F.run A outer s H as us vs Q E hr e hb r (h _ _ _ _ q)⟩, lk⟩
/-- a promise that nobody can ask for -/
theorem Def.bot {x : Str} {st : Stmt} {N ps : List Str} {k : Nat} {sp : Sp} (D : Def K mg x st)
    (hb : ∀ (kV doc pm : Value) (an : Option Addr) (cdv ct : Value) (us : List Value), us.length = ps.length → bindArgs (PySem.W.fnOf x x (defArgs st) (defBody st) (defScope st) .none kV doc pm an cdv ct) ⟨us, []⟩ = pure (ps.zip us))
    (h : ∀ vs H Q E, ¬ sp vs H Q E) : Callee P w K mg base k x ps sp := by
  obtain ⟨f, fd, F, g⟩ := D.ex
  have E := F.ex
  obtain ⟨oc, od, kV, doc, pm, an, cdv, ct, osl, e, lk, _⟩ := E
  exact ⟨f, fd, g, F.kp, F.binds hb, ⟨fun vs H Q E q => (h _ _ _ _ q).elim, fun _ _ _ _ _ _ _ _ _ _ _ _ _ q => (h _ _ _ _ q).elim⟩, oc, od, osl, lk⟩
/-- the built-in names that the module leaves alone -/
structure Bi (mg : Str → Option Value) : Prop where
  b_abs : mg "abs" = none
  b_all : mg "all" = none
  b_any : mg "any" = none
  b_bool : mg "bool" = none
  b_enumerate : mg "enumerate" = none
  b_int : mg "int" = none
  b_isinstance : mg "isinstance" = none
  b_len : mg "len" = none
  b_list : mg "list" = none
  b_max : mg "max" = none
  b_min : mg "min" = none
  b_range : mg "range" = none
  b_set : mg "set" = none
  b_sorted : mg "sorted" = none
  b_str : mg "str" = none
  b_tuple : mg "tuple" = none
  b_zip : mg "zip" = none
  b_iter : mg "iter" = none
  b_ValueError : mg "ValueError" = none
  b_sum : mg "sum" = none
  b_dict : mg "dict" = none
end
section
variable {X : Cx}
theorem pe_fn {k : Nat} {x : Str} {ps : List Str} {sp : Sp} {p pos : Pos} {e : Expr} {es : List Expr} {t : TA} (C : Callee X.prog X.w X.K X.mg X.base k x ps sp) (hr : Room k X.A) (hg : Gl X x) (ha : PA X (e :: es) t)
    (hdb : (x == ("__debug__" : Str)) = false := by decide) (he : starEach (e :: es) X.env = (false, eval e X.env) :: starEach es X.env := by rfl) (hpl : (backTo pos (starEach es X.env)).any (·.1) = false := by rfl) :
    PE X (.Call (.Name x p) (e :: es) [] pos) (tCall sp [] E0 t) := by
  obtain ⟨f, fd, g, kp, b, F, _⟩ := C.ex
  exact pe_call F hr hg g kp b .nil pass0 ha hdb he hpl
theorem pe_gi {x : Str} {n : Int} {pos : Pos} (hg : Gl X x) (h : ∃ t, X.mg x = some (.int n t)) (hd : (x == ("__debug__" : Str)) = false := by decide) : PE X (.Name x pos) (tC (.int n)) := by
  obtain ⟨t, e⟩ := h
  exact pe_glob hg e ⟨t, rfl⟩ hd
/-- a written text + e, e wants a token -/
theorem pe_opT {x : Str} {j : Nat} {c0 pos : Pos} {op : Operator} {f : Expr} {r : R2} {tf : TE} (ho : OpR X (binaryOp op) r) (hb : PET X f tf) : PE X (.BinOp (.Constant (.str x) j c0) op f pos) (tOp r (tC (.str x)) tf) :=
  ⟨fun pins s σ H Q I h => wpAny_BinOp (Calls.Constant_str (thn (hb pins { s with toks := s.toks + 1 } σ H _ (by show 1 ≤ s.toks + 1; omega) (I.tok _) h) fun u s2 ⟨y, H2, I2, r2, q2⟩ => ho pins s2 σ H2 (.str x) y _ u Q I2 ⟨_, rfl⟩ r2 q2))⟩
/-! ### what stands behind a statement, under a name -/
structure Cut (u p : L2.St → Hp → Prop) : Prop where
  go : ∀ σ H, u σ H → p σ H
def tCut (t u : TS) : TS := fun D σ H => ∀ p : L2.St → Hp → Prop, Cut (u D) p → t { D with nx := p } σ H
theorem pss_cut1 {st : Stmt} {r : List Stmt} {t u : TS} (h : PS X st t) (hr : PSs X r u) : PSs X (st :: r) (tCut t u) := ⟨fun pins s σ H D I q => (pss_cons h hr).run pins s σ H D I (q (u D) ⟨fun _ _ z => z⟩)⟩
/-! ### rules for more than one kind of value -/
theorem OpR.wk {f : Value → Value → Sem Value} {r r' : R2} (h : OpR X f r) (w : ∀ x y H Q, r' x y H Q → r x y H Q) : OpR X f r' := fun pins s σ H x y v u Q I rx ry q => h pins s σ H x y v u Q I rx ry (w x y H Q q)
theorem CallR.wk {f : Value} {r r' : List V → Hp → VK → Prop} (h : CallR X f r) (w : ∀ xs H Q, r' xs H Q → r xs H Q) : CallR X f r' := fun pins s σ H xs us Q I r1 q => h pins s σ H xs us Q I r1 (w xs H Q q)
theorem CallR.or {f : Value} {r r' : List V → Hp → VK → Prop} (h : CallR X f r) (h' : CallR X f r') : CallR X f (fun xs H Q => r xs H Q ∨ r' xs H Q) := fun pins s σ H xs us Q I r1 q => by
  rcases q with q | q
  · exact h pins s σ H xs us Q I r1 q
  · exact h' pins s σ H xs us Q I r1 q
theorem MtR.wk {id : String} {r r' : V → List V → Hp → VK → Prop} (h : MtR X id r) (w : ∀ x xs H Q, r' x xs H Q → r x xs H Q) : MtR X id r' := fun pins s σ H x xs v us Q I rx r1 q => h pins s σ H x xs v us Q I rx r1 (w x xs H Q q)
theorem IxR.wk {r r' : R2} (h : IxR X r) (w : ∀ x y H Q, r' x y H Q → r x y H Q) : IxR X r' := fun a b pins s σ H x y v u Q I rx ry q => h a b pins s σ H x y v u Q I rx ry (w x y H Q q)
theorem SlR.wk {r r' : V → Option Int → Option Int → Hp → VK → Prop} (h : SlR X r) (w : ∀ x a b H Q, r' x a b H Q → r x a b H Q) : SlR X r' := fun pins s σ H x v vl vu lo hi sl Q I rx hs pl pu q => h pins s σ H x v vl vu lo hi sl Q I rx hs pl pu (w _ _ _ _ _ q)
/-- a + b: ints, texts, two lists -/
def rAd : R2 := fun x y H Q => (∃ i j, x = .int i ∧ y = .int j ∧ Q (.int (i + j)) H) ∨ (∃ i j, x = .str i ∧ y = .str j ∧ i.length + j.length ≤ sizeLine ∧ Q (.str (i ++ j)) H) ∨ rCat x y H Q
theorem ad_any : OpR X (binaryOp .Add) rAd := op_add.or (op_add_str.or op_cat)
def rMl : R2 := fun x y H Q => (∃ i j, x = .int i ∧ y = .int j ∧ (CMul i j ∨ CMulW i j) ∧ Q (.int (i * j)) H) ∨ rRep x y H Q
theorem ml_any : OpR X (binaryOp .Mult) rMl := by
  refine OpR.or (fun pins s σ H x y v u Q I rx ry h => ?_) op_rep
  obtain ⟨i, j, rfl, rfl, c | c, q⟩ := h
  · exact op_mul pins s σ H _ _ v u Q I rx ry ⟨i, j, rfl, rfl, c, q⟩
  · exact op_mulW pins s σ H _ _ v u Q I rx ry ⟨i, j, rfl, rfl, c, q⟩
def rMd : R2 := fun x y H Q => ∃ i j, x = .int i ∧ y = .int j ∧ 0 < j ∧ Q (.int (i % j)) H
theorem md_any : OpR X (binaryOp .Mod) rMd := op_mod
def rFd : R2 := fun x y H Q => ∃ i j, x = .int i ∧ y = .int j ∧ CDivW i j ∧ Q (.int (i / j)) H
theorem fd_any : OpR X (binaryOp .FloorDiv) rFd := op_fdivW
/-- x is y, y one of None, True, False -/
def isK : V → Bool
  | .non => true
  | .bl _ => true
  | _ => false
def rIs (n : Bool) : R2 := fun x y H Q => isK y = true ∧ Q (.bl (n ^^ decide (x = y))) H
theorem is_any : OpR X (compareOp .Is) (rIs false) := by
  intro pins s σ H x y v u Q I rx ry h
  obtain ⟨k, q⟩ := h
  rw [Bool.false_xor] at q
  cases y with
  | non => exact op_isN pins s σ H x .non v u Q I rx ry ⟨rfl, q⟩
  | bl b =>
    cases x with
    | bl a =>
      refine op_isBl pins s σ H (.bl a) (.bl b) v u Q I rx ry ⟨a, b, rfl, rfl, ?_⟩
      have e : decide (V.bl a = V.bl b) = decide (a = b) := by cases a <;> cases b <;> decide
      rw [← e]
      exact q
    | _ =>
      cases ry
      refine wpAny_is_other ?_ ?_ ⟨.bl false, H, I, rfl, q⟩ <;> first
        | (obtain ⟨t, rfl⟩ := rx; first | rfl | (intro z; cases z))
        | (cases rx; first | rfl | (intro z; cases z))
  | _ => cases k
theorem isnt_any : OpR X (compareOp .IsNot) (rIs true) := by
  intro pins s σ H x y v u Q I rx ry h
  obtain ⟨k, q⟩ := h
  rw [Bool.true_xor] at q
  cases y with
  | non => exact op_notN pins s σ H x .non v u Q I rx ry ⟨rfl, q⟩
  | bl b =>
    cases x with
    | bl a =>
      refine op_notBl pins s σ H (.bl a) (.bl b) v u Q I rx ry ⟨a, b, rfl, rfl, ?_⟩
      have e : decide (V.bl a = V.bl b) = decide (a = b) := by cases a <;> cases b <;> decide
      rw [← e]
      exact q
    | _ =>
      cases ry
      refine wpAny_isNot_other ?_ ?_ ⟨.bl true, H, I, rfl, q⟩ <;> first
        | (obtain ⟨t, rfl⟩ := rx; first | rfl | (intro z; cases z))
        | (cases rx; first | rfl | (intro z; cases z))
  | _ => cases k

/-- x == y: two flat ones; data of any depth -/
def rEqA (K : PySem.W.Frag) (n : Bool) : R2 := fun x y H Q => (scal x y = true ∧ Q (.bl (n ^^ decide (x = y))) H) ∨ ((∃ p, x = .ref p ∨ y = .ref p) ∧ ∃ d e, Dp K H x d ∧ Dp K H y e ∧ SeqAt.shaped d = true ∧ SeqAt.shaped e = true ∧ Q (.bl (n ^^ PyData.eqv d e)) H)
theorem eq_any {k : Nat} (hr : Room k X.A) : OpR X (compareOp .Eq) (rEqA X.K false) := OpR.wk (OpR.or op_eq (op_eqD hr.units)) fun x y H Q h => by
  rcases h with ⟨hx, q⟩ | ⟨_, d, e, a, b, c, f, q⟩
  · exact .inl ⟨hx, by simpa using q⟩
  · exact .inr ⟨d, e, a, b, c, f, by simpa using q⟩
theorem ne_any {k : Nat} (hr : Room k X.A) : OpR X (compareOp .NotEq) (rEqA X.K true) := OpR.wk (OpR.or op_ne (op_neD hr.units)) fun x y H Q h => by
  rcases h with ⟨hx, q⟩ | ⟨_, d, e, a, b, c, f, q⟩
  · exact .inl ⟨hx, by simpa using q⟩
  · exact .inr ⟨d, e, a, b, c, f, by simpa using q⟩
/-- x in y: a sign in a text; flat things in a tracked list or tuple -/
def rInA (n : Bool) : R2 := fun x y H Q => (∃ (c : Nat) (z : Str), x = .str ⟨#[c]⟩ ∧ y = .str z ∧ Q (.bl (n ^^ decide (c ∈ z.cps.toList))) H) ∨
  (∃ p xs, y = .ref p ∧ (H p = some (.lst xs) ∨ H p = some (.tup xs)) ∧ flatV x = true ∧ xs.all flatV = true ∧ Q (.bl (n ^^ inV x xs)) H)
theorem in_any : OpR X (compareOp .In) (rInA false) := by
  refine OpR.wk (op_in_sign.or op_in_seq) fun x y H Q h => ?_
  rcases h with ⟨c, z, rfl, rfl, q⟩ | ⟨p, xs, rfl, hp, a, b, q⟩
  · exact .inl ⟨c, z, rfl, rfl, by simpa using q⟩
  · exact .inr ⟨p, xs, rfl, hp.imp (fun h => .inl (.inl h)) (fun h => .inl (.inl h)), a, b, by simpa using q⟩
theorem ni_any : OpR X (compareOp .NotIn) (rInA true) := by
  refine OpR.wk (op_notIn_sign.or op_notIn_seq) fun x y H Q h => ?_
  rcases h with ⟨c, z, rfl, rfl, q⟩ | ⟨p, xs, rfl, hp, a, b, q⟩
  · exact .inl ⟨c, z, rfl, rfl, by simpa using q⟩
  · exact .inr ⟨p, xs, rfl, hp.imp (fun h => .inl (.inl h)) (fun h => .inl (.inl h)), a, b, by simpa using q⟩
/-- x[i]: a tracked list, a tracked tuple, a text -/
def rIxA : R2 := fun x y H Q => (∃ p xs i v, x = .ref p ∧ y = .int i ∧ (H p = some (.lst xs) ∨ H p = some (.tup xs)) ∧ atI xs i = some v ∧ Q v H) ∨ (∃ z i c, x = .str z ∧ y = .int i ∧ z.length ≤ sizeLine ∧ atI z.cps.toList i = some c ∧ Q (.str ⟨#[c]⟩) H)
theorem ix_any : IxR X rIxA := by
  refine IxR.wk ix_seq fun x y H Q h => ?_
  rcases h with ⟨p, xs, i, v, rfl, rfl, h | h, a, q⟩ | h
  · exact .inl ⟨p, xs, i, v, rfl, rfl, .inl (.inl h), a, q⟩
  · exact .inr (.inl ⟨p, xs, i, v, rfl, rfl, .inl (.inl h), a, q⟩)
  · exact .inr (.inr h)
/-- len(x) -/
def rLenA : List V → Hp → VK → Prop := fun vs H Q => (∃ z, vs = [.str z] ∧ z.length ≤ sizeLine ∧ Q (.int z.length) H) ∨ (∃ p xs, vs = [.ref p] ∧ (H p = some (.lst xs) ∨ H p = some (.tup xs)) ∧ Q (.int xs.length) H) ∨ (∃ p kvs, vs = [.ref p] ∧ H p = some (.dK kvs) ∧ Q (.int kvs.length) H)
theorem len_any : CallR X (.builtin "len") rLenA := by
  refine CallR.wk (CallR.or call_len_str (CallR.or call_len_seq call_lenD)) fun vs H Q h => ?_
  rcases h with h | ⟨p, xs, rfl, h | h, q⟩ | ⟨p, kvs, rfl, h, q⟩
  · exact .inl h
  · exact .inr (.inl ⟨p, xs, rfl, .inl (.inl (.inl h)), q⟩)
  · exact .inr (.inl ⟨p, xs, rfl, .inr (.inl (.inl h)), q⟩)
  · exact .inr (.inr ⟨p, kvs, rfl, h, q⟩)
def rIntA : List V → Hp → VK → Prop := fun vs H Q => (∃ i, vs = [.int i] ∧ Q (.int i) H) ∨ (∃ k, vs = [.bl k] ∧ Q (.int (if k then 1 else 0)) H) ∨ (∃ a n, vs = [.str a] ∧ PySem.intText? a = some n ∧ a.length ≤ 640 ∧ Q (.int n) H)
theorem int_any : CallR X (.type "int") rIntA := by
  refine CallR.wk (CallR.or call_int1 call_int_str) fun vs H Q h => ?_
  rcases h with h | h | ⟨a, n, h⟩
  · exact .inl (.inl h)
  · exact .inl (.inr h)
  · exact .inr ⟨a, n, h⟩
def rStrA : List V → Hp → VK → Prop := fun vs H Q => (∃ i, vs = [.int i] ∧ i.natAbs.log2 < 1920 ∧ Q (.str (toString i)) H) ∨ (∃ a, vs = [.str a] ∧ Q (.str a) H)
theorem str_any : CallR X (.type "str") rStrA := CallR.or call_str_int SkE.call_str_str
/-- the name of a value's type, where the value is flat or a tracked list, tuple or dict -/
def TyN (H : Hp) (x : V) (n : String) : Prop := match x with
  | .non => n = "NoneType"
  | .bl _ => n = "bool"
  | .int _ => n = "int"
  | .str _ => n = "str"
  | .ref a => (∃ xs, H a = some (.lst xs) ∧ n = "list") ∨ (∃ xs, H a = some (.tup xs) ∧ n = "tuple") ∨ ∃ kvs, H a = some (.dK kvs) ∧ n = "dict"
  | _ => False
theorem TyN.ty {K : PySem.W.Frag} {H : Hp} {x : V} {n : String} (h : TyN H x n) : TyX K H x (.type n) := by
  unfold TyN at h
  split at h
  · subst h; exact .base .non
  · subst h; exact .base (.bl _)
  · subst h; exact .base (.int _)
  · subst h; exact .base (.str _)
  · rcases h with ⟨xs, e, rfl⟩ | ⟨xs, e, rfl⟩ | ⟨kvs, e, rfl⟩
    · exact .base (.lst e)
    · exact .base (.tup e)
    · exact .base (.dK e)
  · exact h.elim
def rIsiA : List V → Hp → VK → Prop := fun vs H Q => ∃ x T n b, vs = [x, .ty T] ∧ TyN H x n ∧ kitB n T = some b ∧ Q (.bl b) H
theorem isi_any : CallR X (.builtin "isinstance") rIsiA := CallR.wk call_isi fun vs H Q h => by
  obtain ⟨x, T, n, b, rfl, ty, e, q⟩ := h
  exact ⟨x, .ty T, _, _, b, rfl, .ty T, ty.ty, kit_ty e, q⟩
/-- sep.join(xs), xs a tracked list of texts -/
def rJoinA : V → List V → Hp → VK → Prop := fun x xs H Q => ∃ a p, ∃ ys : List Str, x = .str a ∧ xs = [.ref p] ∧ (H p = some (.lst (ys.map V.str)) ∨ H p = some (.tup (ys.map V.str))) ∧ (ys.map (·.length)).sum + ys.length * a.length ≤ 16777216 ∧ Q (.str (Txt.join a ys)) H
theorem mt_joinA : MtR X "str.join" rJoinA := MtR.wk mt_join fun x xs H Q h => by
  obtain ⟨a, p, ys, rfl, rfl, h, z, q⟩ := h
  exact ⟨a, p, ys, rfl, rfl, h.imp (fun h => .inl (.inl h)) (fun h => .inl (.inl h)), z, q⟩
/-- x[a:b]: a text, a tracked list -/
def rSlA : V → Option Int → Option Int → Hp → VK → Prop := fun x lo hi H Q => (∃ z, x = .str z ∧ z.length ≤ sizeLine ∧ Q (.str (cutS z lo hi)) H) ∨ (∃ a xs, x = .ref a ∧ H a = some (.lst xs) ∧ ∀ p, H p = none → Q (.ref p) (upd H p (.lst (cutV xs lo hi))))
theorem sl_any : SlR X rSlA := SlR.wk (SlR.or sl_str sl_list) fun x a b H Q h => by
  rcases h with h | ⟨p, xs, rfl, h, q⟩
  · exact .inl h
  · exact .inr ⟨p, xs, rfl, .inl (.inl h), q⟩
end
end KB
namespace KB
open PySem PySem.Spec PyProof.Rows L2
section
variable {σ : L2.St} {H : Hp} {Q : VK} {D : L2.Ends}
theorem q_var {i : Nat} : tVar i σ H Q = ∃ v, σ[i]? = some (some v) ∧ Q v H := propext Iff.rfl
theorem q_c {v : V} : tC v σ H Q = Q v H := propext Iff.rfl
theorem q_op {r : R2} {ta tb : TE} : tOp r ta tb σ H Q = ta σ H fun x H1 => tb σ H1 fun y H2 => r x y H2 Q := propext Iff.rfl
theorem q_un {r : V → Hp → VK → Prop} {ta : TE} : tUn r ta σ H Q = ta σ H fun x H1 => r x H1 Q := propext Iff.rfl
theorem q_call {sp : Sp} {dvs : List V} {E : XK} {t : TA} : tCall sp dvs E t σ H Q = t σ H fun vs H1 => sp (vs ++ dvs) H1 Q E := propext Iff.rfl
theorem q_cb {r : List V → Hp → VK → Prop} {t : TA} : tCB r t σ H Q = t σ H fun vs H1 => r vs H1 Q := propext Iff.rfl
theorem q_bm0 {K : PySem.W.Frag} {T : String} {r : V → List V → Hp → VK → Prop} {to : TE} : tBM0 K T r to σ H Q = to σ H fun x H1 => tyV K T x H1 ∧ r x [] H1 Q := propext Iff.rfl
theorem q_bm {K : PySem.W.Frag} {T : String} {r : V → List V → Hp → VK → Prop} {to : TE} {t : TA} : tBM K T r to t σ H Q = to σ H fun x H1 => tyV K T x H1 ∧ t σ H1 fun xs H2 => r x xs H2 Q := propext Iff.rfl
theorem q_nil {Q : List V → Hp → Prop} : tNil σ H Q = Q [] H := propext Iff.rfl
theorem q_cons {ta : TE} {tr : TA} {Q : List V → Hp → Prop} : tCons ta tr σ H Q = ta σ H fun x H1 => tr σ H1 fun xs H2 => Q (x :: xs) H2 := propext Iff.rfl
theorem q_tup {t : TA} : tTup t σ H Q = t σ H fun xs H1 => xs.length ≤ sizeLine ∧ ∀ p, H1 p = none → Q (.ref p) (upd H1 p (.tup xs)) := propext Iff.rfl
theorem q_lst {t : TA} : tLst t σ H Q = t σ H fun xs H1 => xs.length ≤ sizeLine ∧ ∀ p, H1 p = none → Q (.ref p) (upd H1 p (.lst xs)) := propext Iff.rfl
theorem q_dget {td ty : TE} : tDGet td ty σ H Q = td σ H fun x H1 => ty σ H1 fun y H2 => ∃ a v, x = .ref a ∧ DGet H2 a y (some v) ∧ Q v H2 := propext Iff.rfl
theorem q_din {td ty : TE} : tDIn ty td σ H Q = ty σ H fun y H1 => td σ H1 fun x H2 => ∃ a o, x = .ref a ∧ DGet H2 a y o ∧ Q (.bl o.isSome) H2 := propext Iff.rfl
theorem q_dnotin {td ty : TE} : tDNotIn ty td σ H Q = ty σ H fun y H1 => td σ H1 fun x H2 => ∃ a o, x = .ref a ∧ DGet H2 a y o ∧ Q (.bl (!o.isSome)) H2 := propext Iff.rfl
theorem q_dput {td ty tv : TE} : sDPut td ty tv D σ H = tv σ H fun v H1 => td σ H1 fun x H2 => ty σ H2 fun y H3 => ∃ a H4, x = .ref a ∧ DPut H3 a y v H4 ∧ D.nx σ H4 := propext Iff.rfl
theorem q_dnew : tDNewK σ H Q = ∀ p, H p = none → Q (.ref p) (upd H p (.dK [])) := propext Iff.rfl
theorem q_seq {t u : TS} : tSeq t u D σ H = t { D with nx := u D } σ H := propext Iff.rfl
theorem q_cut {t u : TS} : tCut t u D σ H = ∀ p : L2.St → Hp → Prop, Cut (u D) p → t { D with nx := p } σ H := propext Iff.rfl
theorem q_asg {te : TE} {i : Nat} : tAsg te (gName i) D σ H = te σ H fun x H1 => D.nx (σ.set i (some x)) H1 := propext Iff.rfl
theorem q_asgT {te : TE} {K : PySem.W.Frag} {n : Nat} {t : TGs} : tAsg te (gTup K n t) D σ H = te σ H fun v H1 => ∃ a xs, v = .ref a ∧ SqT K H1 a xs ∧ xs.length = n ∧ t xs σ H1 D.nx := propext Iff.rfl
theorem q_ret {te : TE} : tRet te D σ H = te σ H D.rt := propext Iff.rfl
theorem q_retN : tRetN D σ H = D.rt .non H := propext Iff.rfl
theorem q_drop {te : TE} : tDrop te D σ H = te σ H fun _ H1 => D.nx σ H1 := propext Iff.rfl
theorem q_next : tNext D σ H = D.nx σ H := propext Iff.rfl
theorem q_brk : tBreak D σ H = D.bk σ H := propext Iff.rfl
theorem q_cont : tCont D σ H = D.ct σ H := propext Iff.rfl
theorem q_ifs {c : TT} {t u : TS} : tIfS c t u D σ H = c σ H fun b H1 => if b = true then t D σ H1 else u D σ H1 := propext Iff.rfl
section
variable {Q : Bool → Hp → Prop} {t u : TT} {te : TE}
theorem q_test : tTest te σ H Q = te σ H fun x H' => ∃ k, x = .bl k ∧ Q k H' := propext Iff.rfl
theorem q_b : tB te σ H Q = te σ H fun x H' => ∃ k, x = .bl k ∧ Q k H' := propext Iff.rfl
theorem q_and : tAnd t u σ H Q = t σ H fun c H1 => if c = true then u σ H1 Q else Q false H1 := propext Iff.rfl
theorem q_or : tOr t u σ H Q = t σ H fun c H1 => if c = true then Q true H1 else u σ H1 Q := propext Iff.rfl
theorem q_not : tNot t σ H Q = t σ H fun c H1 => Q (!c) H1 := propext Iff.rfl
end
theorem q_andV {ta tb : TE} : tAndV ta tb σ H Q = ta σ H fun x H1 => ∃ c, x = .bl c ∧ if c = true then tb σ H1 Q else Q (.bl false) H1 := propext Iff.rfl
theorem q_orV {ta tb : TE} : tOrV ta tb σ H Q = ta σ H fun x H1 => ∃ c, x = .bl c ∧ if c = true then Q (.bl true) H1 else tb σ H1 Q := propext Iff.rfl
theorem q_notV {ta : TE} : tNotV ta σ H Q = ta σ H fun x H1 => ∃ c, x = .bl c ∧ Q (.bl (!c)) H1 := propext Iff.rfl
theorem q_if {t : TT} {ta tb : TE} : tIf t ta tb σ H Q = t σ H fun c H1 => if c = true then ta σ H1 Q else tb σ H1 Q := propext Iff.rfl
theorem q_sl {r : V → Option Int → Option Int → Hp → VK → Prop} {te : TE} {tl th : TO} : tSl r te tl th σ H Q = te σ H fun x H1 => tl σ H1 fun l H2 => th σ H2 fun u H3 => r x l u H3 Q := propext Iff.rfl
theorem q_part {te : TE} {Q : Option Int → Hp → Prop} : tPart te σ H Q = te σ H fun x H1 => ∃ i, x = .int i ∧ Q (some i) H1 := propext Iff.rfl
theorem q_nopart {Q : Option Int → Hp → Prop} : tNoPart σ H Q = Q none H := propext Iff.rfl
theorem q_par {i j : Nat} {ta : TA} : tPar i j ta D σ H = ta σ H fun vs H1 => ∃ v w, vs = [v, w] ∧ D.nx ((σ.set i (some v)).set j (some w)) H1 := propext Iff.rfl
theorem q_disp {trs : List (TE × TE)} : tDisp trs σ H Q = ∀ p, H p = none → tPairs trs σ (upd H p (.dK [])) fun ps H2 => H2 p = some (.dK []) ∧ ∃ kvs : List (Key × V), ps = kvs.map (fun kv => (kV kv.1, kv.2)) ∧ kvs.length ≤ 15 ∧ Q (.ref p) (upd H2 p (.dK (mergeK [] kvs))) := propext Iff.rfl
end
section
variable {x y : V} {H : Hp} {Q : VK}
theorem r_ii {g : Int → Int → V} {i j : Int} : rI0 g (.int i) (.int j) H Q = Q (g i j) H := by
  apply propext
  exact ⟨fun ⟨a, b, e1, e2, q⟩ => by cases e1; cases e2; exact q, fun q => ⟨i, j, rfl, rfl, q⟩⟩
theorem r_i {C : Int → Int → Prop} {g : Int → Int → V} {i j : Int} : rI C g (.int i) (.int j) H Q = (C i j ∧ Q (g i j) H) := by
  apply propext
  exact ⟨fun ⟨a, b, e1, e2, q⟩ => by cases e1; cases e2; exact q, fun q => ⟨i, j, rfl, rfl, q⟩⟩
theorem r_neg {g : Int → V} {i : Int} : rU g (.int i) H Q = Q (g i) H := by
  apply propext
  exact ⟨fun ⟨a, e1, q⟩ => by cases e1; exact q, fun q => ⟨i, rfl, q⟩⟩
theorem r_adI {i j : Int} : rAd (.int i) (.int j) H Q = Q (.int (i + j)) H := by
  apply propext
  constructor
  · rintro (⟨a, b, e1, e2, q⟩ | ⟨a, b, e1, _⟩ | ⟨a, b, c, d, e1, _⟩)
    · cases e1; cases e2; exact q
    · cases e1
    · cases e1
  · exact fun q => .inl ⟨i, j, rfl, rfl, q⟩
theorem r_adS {i j : Str} : rAd (.str i) (.str j) H Q = (i.length + j.length ≤ sizeLine ∧ Q (.str (i ++ j)) H) := by
  apply propext
  constructor
  · rintro (⟨a, b, e1, _⟩ | ⟨a, b, e1, e2, q⟩ | ⟨a, b, c, d, e1, _⟩)
    · cases e1
    · cases e1; cases e2; exact q
    · cases e1
  · exact fun q => .inr (.inl ⟨i, j, rfl, rfl, q⟩)
theorem r_mlI {i j : Int} : rMl (.int i) (.int j) H Q = ((CMul i j ∨ CMulW i j) ∧ Q (.int (i * j)) H) := by
  apply propext
  constructor
  · rintro (⟨a, b, e1, e2, q⟩ | ⟨a, b, c, e1, _⟩)
    · cases e1; cases e2; exact q
    · cases e1
  · exact fun q => .inl ⟨i, j, rfl, rfl, q⟩
theorem r_md {i j : Int} : rMd (.int i) (.int j) H Q = (0 < j ∧ Q (.int (i % j)) H) := by
  apply propext
  exact ⟨fun ⟨a, b, e1, e2, q⟩ => by cases e1; cases e2; exact q, fun q => ⟨i, j, rfl, rfl, q⟩⟩
theorem r_fd {i j : Int} : rFd (.int i) (.int j) H Q = (CDivW i j ∧ Q (.int (i / j)) H) := by
  apply propext
  exact ⟨fun ⟨a, b, e1, e2, q⟩ => by cases e1; cases e2; exact q, fun q => ⟨i, j, rfl, rfl, q⟩⟩
theorem r_is {n : Bool} : rIs n x y H Q = (isK y = true ∧ Q (.bl (n ^^ decide (x = y))) H) := propext Iff.rfl
theorem r_eqS {K : PySem.W.Frag} {n : Bool} (h : scal x y = true) : rEqA K n x y H Q = Q (.bl (n ^^ decide (x = y))) H := by
  apply propext
  constructor
  · rintro (⟨_, q⟩ | ⟨⟨p, e | e⟩, _⟩)
    · exact q
    · subst e; cases y <;> cases h
    · subst e; cases x <;> cases h
  · exact fun q => .inl ⟨h, q⟩
theorem r_ixS {z : Str} {i : Int} : rIxA (.str z) (.int i) H Q = (z.length ≤ sizeLine ∧ ∃ c, atI z.cps.toList i = some c ∧ Q (.str ⟨#[c]⟩) H) := by
  apply propext
  constructor
  · rintro (⟨p, xs, j, v, e1, _⟩ | ⟨a, j, c, e1, e2, h, e, q⟩)
    · cases e1
    · cases e1; cases e2; exact ⟨h, c, e, q⟩
  · rintro ⟨h, c, e, q⟩
    exact .inr ⟨z, i, c, rfl, rfl, h, e, q⟩
theorem r_ixR {p : Addr} {i : Int} : rIxA (.ref p) (.int i) H Q = ∃ xs, (H p = some (.lst xs) ∨ H p = some (.tup xs)) ∧ ∃ v, atI xs i = some v ∧ Q v H := by
  apply propext
  constructor
  · rintro (⟨p', ys, j, v, e1, e2, h2, e, q⟩ | ⟨a, j, c, e1, _⟩)
    · cases e1; cases e2
      exact ⟨ys, h2, v, e, q⟩
    · cases e1
  · rintro ⟨xs, h, v, e, q⟩
    exact .inl ⟨p, xs, i, v, rfl, rfl, h, e, q⟩
theorem r_lenS {z : Str} : rLenA [.str z] H Q = (z.length ≤ sizeLine ∧ Q (.int z.length) H) := by
  apply propext
  constructor
  · rintro (⟨a, e1, q⟩ | ⟨p, xs, e1, _⟩ | ⟨p, xs, e1, _⟩)
    · cases e1; exact q
    · cases e1
    · cases e1
  · exact fun q => .inl ⟨z, rfl, q⟩
theorem r_lenR {p : Addr} : rLenA [.ref p] H Q = ((∃ xs, (H p = some (.lst xs) ∨ H p = some (.tup xs)) ∧ Q (.int xs.length) H) ∨ ∃ kvs, H p = some (.dK kvs) ∧ Q (.int kvs.length) H) := by
  apply propext
  constructor
  · rintro (⟨a, e1, q⟩ | ⟨p, ys, e1, h2, q⟩ | ⟨p, xs, e1, h2, q⟩)
    · cases e1
    · cases e1
      exact .inl ⟨ys, h2, q⟩
    · cases e1
      exact .inr ⟨xs, h2, q⟩
  · rintro (⟨xs, h, q⟩ | ⟨xs, h, q⟩)
    · exact .inr (.inl ⟨p, xs, rfl, h, q⟩)
    · exact .inr (.inr ⟨p, xs, rfl, h, q⟩)
theorem r_intI {i : Int} : rIntA [.int i] H Q = Q (.int i) H := by
  apply propext
  constructor
  · rintro (⟨a, e1, q⟩ | ⟨p, e1, _⟩ | ⟨p, xs, e1, _⟩)
    · cases e1; exact q
    · cases e1
    · cases e1
  · exact fun q => .inl ⟨i, rfl, q⟩
theorem r_intS {a : Str} : rIntA [.str a] H Q = ∃ n, PySem.intText? a = some n ∧ a.length ≤ 640 ∧ Q (.int n) H := by
  apply propext
  constructor
  · rintro (⟨a, e1, q⟩ | ⟨p, e1, _⟩ | ⟨p, n, e1, h⟩)
    · cases e1
    · cases e1
    · cases e1; exact ⟨n, h⟩
  · exact fun ⟨n, h⟩ => .inr (.inr ⟨a, n, rfl, h⟩)
theorem r_strI {i : Int} : rStrA [.int i] H Q = (i.natAbs.log2 < 1920 ∧ Q (.str (toString i)) H) := by
  apply propext
  constructor
  · rintro (⟨a, e1, q⟩ | ⟨p, e1, _⟩)
    · cases e1; exact q
    · cases e1
  · exact fun q => .inl ⟨i, rfl, q⟩
theorem r_strS {a : Str} : rStrA [.str a] H Q = Q (.str a) H := by
  apply propext
  constructor
  · rintro (⟨a, e1, q⟩ | ⟨p, e1, q⟩)
    · cases e1
    · cases e1; exact q
  · exact fun q => .inr ⟨a, rfl, q⟩
theorem r_slS {z : Str} {lo hi : Option Int} : rSlA (.str z) lo hi H Q = (z.length ≤ sizeLine ∧ Q (.str (cutS z lo hi)) H) := by
  apply propext
  constructor
  · rintro (⟨a, e1, q⟩ | ⟨p, xs, e1, _⟩)
    · cases e1; exact q
    · cases e1
  · exact fun q => .inl ⟨z, rfl, q⟩
theorem r_isi {n T : String} {b : Bool} (ht : TyN H x n) (hn : ∀ m, TyN H x m → m = n) (hk : kitB n T = some b) : rIsiA [x, .ty T] H Q = Q (.bl b) H := by
  apply propext
  constructor
  · rintro ⟨y, S, m, c, e1, h1, h2, q⟩
    cases e1
    cases hn m h1
    rw [hk] at h2; cases h2
    exact q
  · exact fun q => ⟨x, T, n, b, rfl, ht, hk, q⟩
theorem kb_NoneType_int : kitB "NoneType" "int" = some false := by decide +kernel
theorem kb_NoneType_str : kitB "NoneType" "str" = some false := by decide +kernel
theorem kb_NoneType_bool : kitB "NoneType" "bool" = some false := by decide +kernel
theorem kb_NoneType_list : kitB "NoneType" "list" = some false := by decide +kernel
theorem kb_NoneType_tuple : kitB "NoneType" "tuple" = some false := by decide +kernel
theorem kb_NoneType_dict : kitB "NoneType" "dict" = some false := by decide +kernel
theorem kb_bool_int : kitB "bool" "int" = some true := by decide +kernel
theorem kb_bool_str : kitB "bool" "str" = some false := by decide +kernel
theorem kb_bool_bool : kitB "bool" "bool" = some true := by decide +kernel
theorem kb_bool_list : kitB "bool" "list" = some false := by decide +kernel
theorem kb_bool_tuple : kitB "bool" "tuple" = some false := by decide +kernel
theorem kb_bool_dict : kitB "bool" "dict" = some false := by decide +kernel
theorem kb_int_int : kitB "int" "int" = some true := by decide +kernel
theorem kb_int_str : kitB "int" "str" = some false := by decide +kernel
theorem kb_int_bool : kitB "int" "bool" = some false := by decide +kernel
theorem kb_int_list : kitB "int" "list" = some false := by decide +kernel
theorem kb_int_tuple : kitB "int" "tuple" = some false := by decide +kernel
theorem kb_int_dict : kitB "int" "dict" = some false := by decide +kernel
theorem kb_str_int : kitB "str" "int" = some false := by decide +kernel
theorem kb_str_str : kitB "str" "str" = some true := by decide +kernel
theorem kb_str_bool : kitB "str" "bool" = some false := by decide +kernel
theorem kb_str_list : kitB "str" "list" = some false := by decide +kernel
theorem kb_str_tuple : kitB "str" "tuple" = some false := by decide +kernel
theorem kb_str_dict : kitB "str" "dict" = some false := by decide +kernel
theorem kb_list_int : kitB "list" "int" = some false := by decide +kernel
theorem kb_list_str : kitB "list" "str" = some false := by decide +kernel
theorem kb_list_bool : kitB "list" "bool" = some false := by decide +kernel
theorem kb_list_list : kitB "list" "list" = some true := by decide +kernel
theorem kb_list_tuple : kitB "list" "tuple" = some false := by decide +kernel
theorem kb_list_dict : kitB "list" "dict" = some false := by decide +kernel
theorem kb_tuple_int : kitB "tuple" "int" = some false := by decide +kernel
theorem kb_tuple_str : kitB "tuple" "str" = some false := by decide +kernel
theorem kb_tuple_bool : kitB "tuple" "bool" = some false := by decide +kernel
theorem kb_tuple_list : kitB "tuple" "list" = some false := by decide +kernel
theorem kb_tuple_tuple : kitB "tuple" "tuple" = some true := by decide +kernel
theorem kb_tuple_dict : kitB "tuple" "dict" = some false := by decide +kernel
theorem kb_dict_int : kitB "dict" "int" = some false := by decide +kernel
theorem kb_dict_str : kitB "dict" "str" = some false := by decide +kernel
theorem kb_dict_bool : kitB "dict" "bool" = some false := by decide +kernel
theorem kb_dict_list : kitB "dict" "list" = some false := by decide +kernel
theorem kb_dict_tuple : kitB "dict" "tuple" = some false := by decide +kernel
theorem kb_dict_dict : kitB "dict" "dict" = some true := by decide +kernel
theorem r_isi_of {n T : String} (hn : ∀ m, TyN H x m ↔ m = n) : rIsiA [x, .ty T] H Q = ∃ b, kitB n T = some b ∧ Q (.bl b) H := by
  apply propext
  constructor
  · rintro ⟨y, S, m, c, e1, h1, h2, q⟩
    cases e1
    cases (hn m).mp h1
    exact ⟨c, h2, q⟩
  · exact fun ⟨b, h, q⟩ => ⟨x, T, n, b, rfl, (hn n).mpr rfl, h, q⟩
theorem r_isi_non {T : String} : rIsiA [.non, .ty T] H Q = ∃ b, kitB "NoneType" T = some b ∧ Q (.bl b) H := r_isi_of fun _ => Iff.rfl
theorem r_isi_bl {k : Bool} {T : String} : rIsiA [.bl k, .ty T] H Q = ∃ b, kitB "bool" T = some b ∧ Q (.bl b) H := r_isi_of fun _ => Iff.rfl
theorem r_isi_int {i : Int} {T : String} : rIsiA [.int i, .ty T] H Q = ∃ b, kitB "int" T = some b ∧ Q (.bl b) H := r_isi_of fun _ => Iff.rfl
theorem r_isi_str {z : Str} {T : String} : rIsiA [.str z, .ty T] H Q = ∃ b, kitB "str" T = some b ∧ Q (.bl b) H := r_isi_of fun _ => Iff.rfl
theorem r_isi_ref {p : Addr} {T : String} : rIsiA [.ref p, .ty T] H Q = ((∃ xs, H p = some (.lst xs) ∧ ∃ b, kitB "list" T = some b ∧ Q (.bl b) H) ∨ (∃ xs, H p = some (.tup xs) ∧ ∃ b, kitB "tuple" T = some b ∧ Q (.bl b) H) ∨ ∃ kvs, H p = some (.dK kvs) ∧ ∃ b, kitB "dict" T = some b ∧ Q (.bl b) H) := by
  apply propext
  constructor
  · rintro ⟨y, S, m, c, e1, h1, h2, q⟩
    cases e1
    rcases h1 with ⟨xs, h1, rfl⟩ | ⟨xs, h1, rfl⟩ | ⟨xs, h1, rfl⟩
    · exact .inl ⟨xs, h1, c, h2, q⟩
    · exact .inr (.inl ⟨xs, h1, c, h2, q⟩)
    · exact .inr (.inr ⟨xs, h1, c, h2, q⟩)
  · rintro (⟨xs, h1, b, h, q⟩ | ⟨xs, h1, b, h, q⟩ | ⟨xs, h1, b, h, q⟩)
    · exact ⟨.ref p, T, _, b, rfl, .inl ⟨xs, h1, rfl⟩, h, q⟩
    · exact ⟨.ref p, T, _, b, rfl, .inr (.inl ⟨xs, h1, rfl⟩), h, q⟩
    · exact ⟨.ref p, T, _, b, rfl, .inr (.inr ⟨xs, h1, rfl⟩), h, q⟩
theorem abs_nat (i : Int) : (if i < 0 then -i else i) = (i.natAbs : Int) := by split <;> omega
theorem r_abs {i : Int} : (∃ j, [V.int i] = [V.int j] ∧ Q (.int (if j < 0 then -j else j)) H) = Q (.int i.natAbs) H := by
  apply propext
  rw [← abs_nat]
  exact ⟨fun ⟨a, e1, q⟩ => by cases e1; exact q, fun q => ⟨i, rfl, q⟩⟩
end
/-! ### dicts by text keys -/
theorem rd_eq {H : Hp} {a : Addr} {u : HO} : Rd H a u = (H a = some u ∨ ∃ o, H a = some (.frz o u)) := propext Iff.rfl
theorem dget_s {H : Hp} {a : Addr} {k : Str} {r : Option V} : DGet H a (.str k) r = ∃ kvs, Rd H a (.dK kvs) ∧ r = valV kvs (.inr k) := by
  apply propext
  constructor
  · rintro (⟨ks, c, h1, h2, h3⟩ | ⟨ks, c, b, h1, h2, _⟩)
    · cases c with
      | inl i => cases h2
      | inr z => cases h2; exact ⟨ks, h1, h3⟩
    · cases h2
  · exact fun ⟨ks, h, e⟩ => .inl ⟨ks, .inr k, h, rfl, e⟩
theorem dget_i {H : Hp} {a : Addr} {k : Int} {r : Option V} : DGet H a (.int k) r = ∃ kvs, Rd H a (.dK kvs) ∧ r = valV kvs (.inl k) := by
  apply propext
  constructor
  · rintro (⟨ks, c, h1, h2, h3⟩ | ⟨ks, c, b, h1, h2, _⟩)
    · cases c with
      | inr i => cases h2
      | inl z => cases h2; exact ⟨ks, h1, h3⟩
    · cases h2
  · exact fun ⟨ks, h, e⟩ => .inl ⟨ks, .inl k, h, rfl, e⟩
theorem dput_s {H : Hp} {a : Addr} {k : Str} {v : V} {R : Hp → Prop} : (∃ H4, DPut H a (.str k) v H4 ∧ R H4) = ∃ kvs, H a = some (.dK kvs) ∧ kvs.length < sizeLine ∧ R (upd H a (.dK (putK kvs (.inr k) v))) := by
  apply propext
  constructor
  · rintro ⟨H4, (⟨ks, c, h1, h2, h3, h4⟩ | ⟨ks, c, b, h1, h2, _⟩), q⟩
    · cases c with
      | inl i => cases h2
      | inr z => cases h2; subst h4; exact ⟨ks, h1, h3, q⟩
    · cases h2
  · exact fun ⟨ks, h, hl, q⟩ => ⟨_, .inl ⟨ks, .inr k, h, rfl, hl, rfl⟩, q⟩
theorem upd_two {H : Hp} {a : Addr} {o u : HO} : upd (upd H a o) a u = upd H a u := by
  funext b
  unfold upd
  split <;> rfl
theorem upd_old {H : Hp} {p a : Addr} {o : HO} (h : H p = none) (ha : (H a).isSome = true) : upd H p o a = H a := upd_ne fun e => by
  subst e
  rw [h] at ha
  cases ha
theorem sizeN {n : Nat} (h : n ≤ 100000) : n < sizeLine := Nat.lt_of_le_of_lt h (by decide)
theorem start0 {N : List Str} {vs : List V} {σ : L2.St} {t : TS} {D : L2.Ends} {H : Hp} (e : L2.start N vs = σ) (h : t D σ H) : t D (L2.start N vs) H := by
  rw [e]
  exact h
/-! ### the source of draws -/
def srcL (c : Addr) (at_ rest seed room long : Int) : List (Key × V) := [(.inr "cells", .ref c), (.inr "at", .int at_), (.inr "rest", .int rest), (.inr "seed", .int seed), (.inr "room", .int room), (.inr "long", .int long)]
def Src (H : Hp) (a c : Addr) (room : Int) : Prop := ∃ (ns : List Int) (at_ rest seed long : Int), H a = some (.dK (srcL c at_ rest seed room long)) ∧ H c = some (.lst (ns.map V.int)) ∧ 0 ≤ at_ ∧ 0 ≤ rest
def Keep (a : Addr) (H H' : Hp) : Prop := ∀ b o, H b = some o → b ≠ a → H' b = some o
theorem src_cells (c : Addr) (a r s m l : Int) : valV (srcL c a r s m l) (.inr "cells") = some (.ref c) := by rfl
theorem src_at (c : Addr) (a r s m l : Int) : valV (srcL c a r s m l) (.inr "at") = some (.int a) := by rfl
theorem src_rest (c : Addr) (a r s m l : Int) : valV (srcL c a r s m l) (.inr "rest") = some (.int r) := by rfl
theorem src_seed (c : Addr) (a r s m l : Int) : valV (srcL c a r s m l) (.inr "seed") = some (.int s) := by rfl
theorem src_room (c : Addr) (a r s m l : Int) : valV (srcL c a r s m l) (.inr "room") = some (.int m) := by rfl
theorem src_long (c : Addr) (a r s m l : Int) : valV (srcL c a r s m l) (.inr "long") = some (.int l) := by rfl
theorem srcp_at (c : Addr) (a r s m l x : Int) : putK (srcL c a r s m l) (.inr "at") (.int x) = srcL c x r s m l := by rfl
theorem srcp_rest (c : Addr) (a r s m l x : Int) : putK (srcL c a r s m l) (.inr "rest") (.int x) = srcL c a x s m l := by rfl
theorem srcp_seed (c : Addr) (a r s m l x : Int) : putK (srcL c a r s m l) (.inr "seed") (.int x) = srcL c a r x m l := by rfl
theorem srcp_room (c : Addr) (a r s m l x : Int) : putK (srcL c a r s m l) (.inr "room") (.int x) = srcL c a r s x l := by rfl
theorem srcp_long (c : Addr) (a r s m l x : Int) : putK (srcL c a r s m l) (.inr "long") (.int x) = srcL c a r s m x := by rfl
theorem src_len (c : Addr) (a r s m l : Int) : ((srcL c a r s m l).length < sizeLine) = True := eq_true (sizeN (by show 6 ≤ 100000; decide))
theorem cmul_r {i j : Int} (h1 : -18446744073709551616 < j) (h2 : j < 18446744073709551616) : (CMul i j ∨ CMulW i j) = True := eq_true (.inl (.inr ⟨h1, h2⟩))
theorem cmul_l {i j : Int} (h1 : -18446744073709551616 < i) (h2 : i < 18446744073709551616) : (CMul i j ∨ CMulW i j) = True := eq_true (.inl (.inl ⟨h1, h2⟩))
theorem cpow_10 {n : Int} (h0 : 0 ≤ n) (h1 : n ≤ 1000) : CPow 10 n = True := eq_true ⟨h0, by omega, by decide⟩
theorem atI_ints {ns : List Int} {i : Int} (h0 : 0 ≤ i) (h1 : i < ns.length) : ∃ n, atI (ns.map V.int) i = some (.int n) := by
  obtain ⟨j, rfl⟩ := Int.eq_ofNat_of_zero_le h0
  have hj : j < ns.length := by omega
  refine ⟨ns[j], ?_⟩
  exact atI_nat (by rw [List.getElem?_map, List.getElem?_eq_getElem hj]; rfl)
theorem Keep.refl (a : Addr) (H : Hp) : Keep a H H := fun _ _ h _ => h
theorem Keep.trans {a : Addr} {H H1 H2 : Hp} (x : Keep a H H1) (y : Keep a H1 H2) : Keep a H H2 := fun b o h n => y b o (x b o h n) n
theorem Keep.upd {a : Addr} {H : Hp} {o : HO} : Keep a H (upd H a o) := fun b u h n => by rw [upd_ne n]; exact h
theorem Keep.new {a p : Addr} {H : Hp} {o : HO} (h : H p = none) : Keep a H (L2.upd H p o) := fun b u e _ => by rw [upd_ne (ne_of_none e h)]; exact e
theorem src_ne {H : Hp} {a c d : Addr} {room : Int} (h : Src H a c room) (hd : H d = none) : d ≠ a ∧ d ≠ c := by
  obtain ⟨ns, at_, rest, seed, long, ha, hc, _⟩ := h
  exact ⟨(ne_of_none ha hd).symm, (ne_of_none hc hd).symm⟩
theorem src_upd {H : Hp} {a c d : Addr} {room : Int} {o : HO} (h : Src H a c room) (na : d ≠ a) (nc : d ≠ c) : Src (L2.upd H d o) a c room := by
  obtain ⟨ns, at_, rest, seed, long, ha, hc, h0, h1⟩ := h
  exact ⟨ns, at_, rest, seed, long, by rw [upd_ne na.symm]; exact ha, by rw [upd_ne nc.symm]; exact hc, h0, h1⟩
theorem src_new {H : Hp} {a c d : Addr} {room : Int} {o : HO} (h : Src H a c room) (hd : H d = none) : Src (L2.upd H d o) a c room := src_upd h (src_ne h hd).1 (src_ne h hd).2
theorem src_same {H H' : Hp} {a c : Addr} {room : Int} (h : Src H a c room) (hk : Same H H') : Src H' a c room := by
  obtain ⟨ns, at_, rest, seed, long, ha, hc, h0, h1⟩ := h
  exact ⟨ns, at_, rest, seed, long, hk _ _ ha, hk _ _ hc, h0, h1⟩
/-- an object that was not there at H changes -/
theorem Keep.mut {a d : Addr} {H H1 H2 : Hp} {o : HO} (k1 : Keep a H H1) (n : d ≠ a) (hd : H1 d = none) (k2 : Keep a H H2) : Keep a H (L2.upd H2 d o) := fun b u h nb => by
  have e : b ≠ d := fun e => by
    subst e
    have := k1 _ _ h nb
    rw [hd] at this
    cases this
  rw [upd_ne e]
  exact k2 b u h nb
theorem Keep.free {a : Addr} {H H' : Hp} (k : Keep a H H') {b : Addr} (n : b ≠ a) (h : H' b = none) : H b = none := by
  cases e : H b with
  | none => rfl
  | some o => rw [k b o e n] at h; cases h
theorem src_mk {H : Hp} {a c : Addr} {ns : List Int} {kvs : List (Key × V)} {at_ rest seed room long : Int} (ha : H a = some (.dK kvs)) (hc : H c = some (.lst (ns.map V.int))) (h0 : 0 ≤ at_) (h1 : 0 ≤ rest) : Src (upd H a (.dK (srcL c at_ rest seed room long))) a c room := by
  have n : c ≠ a := fun e => by
    subst e
    rw [hc] at ha
    cases ha
  exact ⟨ns, at_, rest, seed, long, upd_same, by rw [upd_ne n]; exact hc, h0, h1⟩

theorem r_inS {n : Bool} {c : Nat} {z : Str} {H : Hp} {Q : VK} : rInA n (.str ⟨#[c]⟩) (.str z) H Q = Q (.bl (n ^^ decide (c ∈ z.cps.toList))) H := by
  apply propext
  constructor
  · rintro (⟨d, w, e1, e2, q⟩ | ⟨p, xs, e1, _⟩)
    · cases e1; cases e2; exact q
    · cases e1
  · exact fun q => .inl ⟨c, z, rfl, rfl, q⟩
theorem r_inR {n : Bool} {x : V} {p : Addr} {H : Hp} {Q : VK} : rInA n x (.ref p) H Q = ∃ xs, (H p = some (.lst xs) ∨ H p = some (.tup xs)) ∧ flatV x = true ∧ xs.all flatV = true ∧ Q (.bl (n ^^ inV x xs)) H := by
  apply propext
  constructor
  · rintro (⟨d, w, e1, e2, q⟩ | ⟨p', xs, e1, q⟩)
    · cases e2
    · cases e1; exact ⟨xs, q⟩
  · exact fun ⟨xs, q⟩ => .inr ⟨p, xs, rfl, q⟩
theorem isK_bl {b : Bool} : (isK (.bl b) = true) = True := eq_true rfl
theorem isK_non : (isK .non = true) = True := eq_true rfl
theorem sz0 : (([] : List V).length ≤ sizeLine) = True := eq_true (by show 0 ≤ sizeLine; decide)
theorem sz1 {x0 : V} : (([x0] : List V).length ≤ sizeLine) = True := eq_true (by show 1 ≤ sizeLine; decide)
theorem sz2 {x0 x1 : V} : (([x0, x1] : List V).length ≤ sizeLine) = True := eq_true (by show 2 ≤ sizeLine; decide)
theorem sz3 {x0 x1 x2 : V} : (([x0, x1, x2] : List V).length ≤ sizeLine) = True := eq_true (by show 3 ≤ sizeLine; decide)
theorem sz4 {x0 x1 x2 x3 : V} : (([x0, x1, x2, x3] : List V).length ≤ sizeLine) = True := eq_true (by show 4 ≤ sizeLine; decide)
theorem sz5 {x0 x1 x2 x3 x4 : V} : (([x0, x1, x2, x3, x4] : List V).length ≤ sizeLine) = True := eq_true (by show 5 ≤ sizeLine; decide)
theorem sz6 {x0 x1 x2 x3 x4 x5 : V} : (([x0, x1, x2, x3, x4, x5] : List V).length ≤ sizeLine) = True := eq_true (by show 6 ≤ sizeLine; decide)
theorem sz7 {x0 x1 x2 x3 x4 x5 x6 : V} : (([x0, x1, x2, x3, x4, x5, x6] : List V).length ≤ sizeLine) = True := eq_true (by show 7 ≤ sizeLine; decide)
theorem sz8 {x0 x1 x2 x3 x4 x5 x6 x7 : V} : (([x0, x1, x2, x3, x4, x5, x6, x7] : List V).length ≤ sizeLine) = True := eq_true (by show 8 ≤ sizeLine; decide)
theorem sz9 {x0 x1 x2 x3 x4 x5 x6 x7 x8 : V} : (([x0, x1, x2, x3, x4, x5, x6, x7, x8] : List V).length ≤ sizeLine) = True := eq_true (by show 9 ≤ sizeLine; decide)
theorem sz10 {x0 x1 x2 x3 x4 x5 x6 x7 x8 x9 : V} : (([x0, x1, x2, x3, x4, x5, x6, x7, x8, x9] : List V).length ≤ sizeLine) = True := eq_true (by show 10 ≤ sizeLine; decide)
theorem sz11 {x0 x1 x2 x3 x4 x5 x6 x7 x8 x9 x10 : V} : (([x0, x1, x2, x3, x4, x5, x6, x7, x8, x9, x10] : List V).length ≤ sizeLine) = True := eq_true (by show 11 ≤ sizeLine; decide)
theorem sz12 {x0 x1 x2 x3 x4 x5 x6 x7 x8 x9 x10 x11 : V} : (([x0, x1, x2, x3, x4, x5, x6, x7, x8, x9, x10, x11] : List V).length ≤ sizeLine) = True := eq_true (by show 12 ≤ sizeLine; decide)
theorem tyV_str {K : PySem.W.Frag} {z : Str} {H : Hp} : tyV K "str" (.str z) H = True := eq_true rfl
/-! ### loops -/
def Loop (J : It) (g : TG) (tb : TS) (D : L2.Ends) (σ : L2.St) (H : Hp) : Prop := ∃ W : Nat → Nat → L2.St → Hp → Prop, (∃ m, W 0 m σ H) ∧ ∀ i m σ H, W i m σ H →
  (J.stop i H ∧ D.nx σ H) ∨ (J.go i H ∧ ∃ N : L2.St → Hp → Prop, (∀ σ' H', N σ' H' → ∃ m', m' < m ∧ W (i + 1) m' σ' H') ∧ ∀ x H', J.yld i H x H' → g x σ H' fun σ2 H2 => tb { D with nx := N, ct := N, bk := D.nx } σ2 H2)
def LcLoop (J : It) (g : TG) (tt : TT) (te : TE) (vs : List Nat) (σ : L2.St) (Q : VK) (D : Addr) (H1 : Hp) : Prop := ∃ W : Nat → Nat → Hp → Prop, (∃ m, W 0 m (upd H1 D (.lst []))) ∧ ∀ i m H, W i m H →
  (J.stop i H ∧ Q (.ref D) H) ∨ (J.go i H ∧ ∃ Nx : Hp → Prop, (∀ H', Nx H' → ∃ m', m' < m ∧ W (i + 1) m' H') ∧ ∀ x H', J.yld i H x H' → g x (wipe σ vs) H' fun σ2 H2 => wipe σ2 vs = wipe σ vs ∧ tt σ2 H2 fun b H3 =>
    if b = true then te σ2 H3 fun y H4 => ∃ acc, H4 D = some (.lst acc) ∧ acc.length < sizeLine ∧ Nx (upd H4 D (.lst (acc ++ [y]))) else Nx H3)
section
variable {σ : L2.St} {H : Hp} {Q : VK} {D : L2.Ends} {g : TG} {tb : TS} {R : It → Hp → Prop}
theorem q_for {wi : TI} : tFor wi g tb D σ H = wi σ H fun J H1 => Loop J g tb D σ H1 := propext Iff.rfl
theorem q_lc {wi : TI} {tt : TT} {te : TE} {vs : List Nat} : tLc wi g tt te vs σ H Q = wi σ H fun J H1 => ∀ D, H1 D = none → LcLoop J g tt te vs σ Q D H1 := propext Iff.rfl
theorem q_rng1 {ta : TA} : iRng1 ta σ H R = ta σ H fun vs H1 => ∃ j : Int, vs = [.int j] ∧ -(2 ^ 62) ≤ j ∧ j < 2 ^ 62 ∧ R (Itr 0 j.toNat) H1 := propext Iff.rfl
theorem q_rng2 {ta : TA} : iRng2 ta σ H R = ta σ H fun vs H1 => ∃ i j : Int, vs = [.int i, .int j] ∧ (-(2 ^ 62) ≤ i ∧ i < 2 ^ 62 ∧ -(2 ^ 62) ≤ j ∧ j < 2 ^ 62) ∧ R (Itr i (j - i).toNat) H1 := propext Iff.rfl
theorem q_ilist {K : PySem.W.Frag} {tl : TE} : iList K tl σ H R = tl σ H fun x H1 => ∃ a, x = .ref a ∧ (∃ xs, SqL K H1 a xs) ∧ R (Itl K a) H1 := propext Iff.rfl
theorem q_istr {te : TE} : iStr te σ H R = te σ H fun v H1 => ∃ x, v = .str x ∧ R (Its x) H1 := propext Iff.rfl
theorem lp_range {lo : Int} {n : Nat} (Pv : Nat → L2.St → Hp → Prop) (h0 : Pv 0 σ H)
    (hs : ∀ i σ H, i < n → Pv i σ H → g (.int (lo + i)) σ H fun σ2 H2 => tb { D with nx := Pv (i + 1), ct := Pv (i + 1), bk := D.nx } σ2 H2) (hd : ∀ σ H, Pv n σ H → D.nx σ H) : Loop (Itr lo n) g tb D σ H := for_range Pv h0 hs hd
theorem lp_list {K : PySem.W.Frag} {a : Addr} {xs : List V} (Pv : Nat → L2.St → Hp → Prop) (h0 : Pv 0 σ H) (hl : ∀ i σ H, i ≤ xs.length → Pv i σ H → SqL K H a xs)
    (hs : ∀ i x σ H, xs[i]? = some x → Pv i σ H → g x σ H fun σ2 H2 => tb { D with nx := Pv (i + 1), ct := Pv (i + 1), bk := D.nx } σ2 H2) (hd : ∀ σ H, Pv xs.length σ H → D.nx σ H) : Loop (Itl K a) g tb D σ H := for_list Pv h0 hl hs hd
theorem lp_str {x : Str} (Pv : Nat → L2.St → Hp → Prop) (h0 : Pv 0 σ H)
    (hs : ∀ i c σ H, x.cps.toList[i]? = some c → Pv i σ H → g (.str ⟨#[c]⟩) σ H fun σ2 H2 => tb { D with nx := Pv (i + 1), ct := Pv (i + 1), bk := D.nx } σ2 H2) (hd : ∀ σ H, Pv x.cps.toList.length σ H → D.nx σ H) : Loop (Its x) g tb D σ H := by
  have el : x.cps.toList.length = x.cps.size := Array.length_toList
  refine ⟨fun i m σ H => m = x.cps.size - i ∧ i ≤ x.cps.size ∧ Pv i σ H, ⟨x.cps.size, by simp, Nat.zero_le _, h0⟩, ?_⟩
  rintro i m σ H ⟨rfl, hi, p⟩
  by_cases hlt : i < x.cps.size
  · refine .inr ⟨hlt, Pv (i + 1), fun σ' H' p' => ⟨x.cps.size - (i + 1), by omega, rfl, hlt, p'⟩, fun v H' y => ?_⟩
    obtain ⟨e, c, ec, ev⟩ := y
    subst e ev
    exact hs i c σ _ (by rw [Array.getElem?_toList]; exact ec) p
  · have e : i = x.cps.toList.length := by omega
    subst e
    exact .inl ⟨by show x.cps.size ≤ _; omega, hd σ H p⟩
theorem wipe_one {k : Nat} {v : Option V} : wipe ((wipe σ [k]).set k v) [k] = wipe σ [k] := by
  simp only [wipe, List.set_set]
/-- what a turn of a comprehension is to reach -/
def LcNext (p : Addr) (i : Nat) (G : Nat → List V → Hp → Prop) : VK := fun y H4 => ∃ acc, H4 p = some (.lst acc) ∧ acc.length < sizeLine ∧ ∃ ys, ys.length = i + 1 ∧ upd H4 p (.lst (acc ++ [y])) p = some (.lst ys) ∧ G (i + 1) ys (upd H4 p (.lst (acc ++ [y])))
theorem LcNext.mk {p : Addr} {i : Nat} {G : Nat → List V → Hp → Prop} {y : V} {H4 : Hp} {ys : List V} (h : H4 p = some (.lst ys)) (e : ys.length = i) (hi : i < 100000) (hG : G (i + 1) (ys ++ [y]) (upd H4 p (.lst (ys ++ [y])))) : LcNext p i G y H4 :=
  ⟨ys, h, sizeN (by omega), ys ++ [y], by simp [e], upd_same, hG⟩
/-- [te for k in range], the list so far is told to G -/
theorem lc_r {lo : Int} {n k : Nat} {te : TE} {p : Addr} (G : Nat → List V → Hp → Prop) (h0 : G 0 [] (upd H p (.lst [])))
    (hs : ∀ i ys H, i < n → ys.length = i → H p = some (.lst ys) → G i ys H → te ((wipe σ [k]).set k (some (.int (lo + i)))) H (LcNext p i G))
    (hd : ∀ ys H, ys.length = n → H p = some (.lst ys) → G n ys H → Q (.ref p) H) : LcLoop (Itr lo n) (gName k) tYes te [k] σ Q p H := by
  refine lc_range (Qd := fun H => Q (.ref p) H) (fun i H => ∃ ys, ys.length = i ∧ H p = some (.lst ys) ∧ G i ys H) ⟨[], rfl, upd_same, h0⟩ (fun i H hi ⟨ys, e, hp, hG⟩ => ?_) (fun H ⟨ys, e, hp, hG⟩ => hd ys H e hp hG)
  refine ⟨wipe_one, ?_⟩
  unfold tYes
  simp only [if_true]
  exact hs i ys H hi e hp hG
/-- [te for k in xs], xs a list that stands -/
theorem lc_l {K : PySem.W.Frag} {a p : Addr} {xs : List V} {k : Nat} {te : TE} (G : Nat → List V → Hp → Prop) (h0 : G 0 [] (upd H p (.lst []))) (hl : ∀ i ys H, G i ys H → SqL K H a xs)
    (hs : ∀ i x ys H, xs[i]? = some x → ys.length = i → H p = some (.lst ys) → G i ys H → te ((wipe σ [k]).set k (some x)) H (LcNext p i G))
    (hd : ∀ ys H, ys.length = xs.length → H p = some (.lst ys) → G xs.length ys H → Q (.ref p) H) : LcLoop (Itl K a) (gName k) tYes te [k] σ Q p H := by
  refine lc_list (xs := xs) (Qd := fun H => Q (.ref p) H) (fun i H => ∃ ys, ys.length = i ∧ H p = some (.lst ys) ∧ G i ys H) ⟨[], rfl, upd_same, h0⟩ (fun i H hi ⟨ys, e, hp, hG⟩ => hl i ys H hG) (fun i x H hx ⟨ys, e, hp, hG⟩ => ?_) (fun H ⟨ys, e, hp, hG⟩ => hd ys H e hp hG)
  refine ⟨wipe_one, ?_⟩
  unfold tYes
  simp only [if_true]
  exact hs i x ys H hx e hp hG
/-- [te for g in xs], any target -/
theorem lc_g {K : PySem.W.Frag} {a p : Addr} {xs : List V} {vs : List Nat} {te : TE} (G : Nat → List V → Hp → Prop) (h0 : G 0 [] (upd H p (.lst []))) (hl : ∀ i ys H, G i ys H → SqL K H a xs)
    (hs : ∀ i x ys H, xs[i]? = some x → ys.length = i → H p = some (.lst ys) → G i ys H → g x (wipe σ vs) H fun σ2 H2 => wipe σ2 vs = wipe σ vs ∧ te σ2 H2 (LcNext p i G))
    (hd : ∀ ys H, ys.length = xs.length → H p = some (.lst ys) → G xs.length ys H → Q (.ref p) H) : LcLoop (Itl K a) g tYes te vs σ Q p H := by
  refine lc_list (xs := xs) (Qd := fun H => Q (.ref p) H) (fun i H => ∃ ys, ys.length = i ∧ H p = some (.lst ys) ∧ G i ys H) ⟨[], rfl, upd_same, h0⟩ (fun i H hi ⟨ys, e, hp, hG⟩ => hl i ys H hG) (fun i x H hx ⟨ys, e, hp, hG⟩ => ?_) (fun H ⟨ys, e, hp, hG⟩ => hd ys H e hp hG)
  unfold tYes
  simp only [if_true]
  exact hs i x ys H hx e hp hG
/-- a tracked tuple of two to two names -/
theorem g_two {K : PySem.W.Frag} {i j : Nat} {t : Addr} {x y : V} {R : L2.St → Hp → Prop} (h : H t = some (.tup [x, y])) (r : R ((σ.set i (some x)).set j (some y)) H) : gTup K 2 (gCons (gName i) (gCons (gName j) gNil)) (.ref t) σ H R :=
  ⟨t, [x, y], rfl, .inl (.inl h), rfl, x, [y], rfl, y, [], rfl, rfl, r⟩
end
section
variable {x y : V} {H : Hp} {Q : VK} {K : PySem.W.Frag} {n : Bool}
theorem r_eqII {i j : Int} : rEqA K n (.int i) (.int j) H Q = Q (.bl (n ^^ decide (i = j))) H := by
  rw [r_eqS rfl]
  simp only [V.int.injEq]
theorem r_eqSS {i j : Str} : rEqA K n (.str i) (.str j) H Q = Q (.bl (n ^^ decide (i = j))) H := by
  rw [r_eqS rfl]
  simp only [V.str.injEq]
theorem r_eqBB {i j : Bool} : rEqA K n (.bl i) (.bl j) H Q = Q (.bl (n ^^ decide (i = j))) H := by
  rw [r_eqS rfl]
  simp only [V.bl.injEq]
end
theorem callee_fn {P : Program} {w : World} {K : PySem.W.Frag} {mg : Str → Option Value} {base : Heap} {k : Nat} {x : Str} {ps : List Str} {sp : Sp} {st : Stmt} {f : Addr} {fd : FuncData} (F : Fun K x x st f fd) (g : mg x = some (.ref f)) (C : Callee P w K mg base k x ps sp) : FnOk P w K mg base CX0 k f fd ps sp := by
  obtain ⟨f', fd', g', kp, b, R, oc', od', sl', lk'⟩ := C.ex
  rw [g] at g'
  cases g'
  obtain ⟨oc, od, kV, doc, pm, an, cdv, ct, osl, e, lk, _⟩ := F.ex
  rw [lk] at lk'
  cases lk'
  exact R
theorem app_ok {K : PySem.W.Frag} {H : Hp} {Q : VK} {l : Addr} {xs : List V} {y : V} (h : H l = some (.lst xs)) (hl : xs.length < 100000) (q : Q .non (upd H l (.lst (xs ++ [y])))) : tyV K "list" (.ref l) H ∧ rAppend (.ref l) [y] H Q :=
  ⟨.inl ⟨rfl, _, .inl (.inl h)⟩, l, xs, y, rfl, rfl, h, sizeN (by omega), q⟩
theorem ln0 : ((([] : List V).length : Nat) : Int) = 0 := by rfl
theorem ln1 {x : V} : ((([x] : List V).length : Nat) : Int) = 1 := by rfl
theorem ln2 {x y : V} : ((([x, y] : List V).length : Nat) : Int) = 2 := by rfl
theorem ln3 {x y z : V} : ((([x, y, z] : List V).length : Nat) : Int) = 3 := by rfl
theorem r_adL {p b : Addr} {H : Hp} {Q : VK} : rAd (.ref p) (.ref b) H Q = ∃ xs zs, H p = some (.lst xs) ∧ H b = some (.lst zs) ∧ xs.length + zs.length ≤ sizeLine ∧ ∀ r, H r = none → Q (.ref r) (upd H r (.lst (xs ++ zs))) := by
  apply propext
  constructor
  · rintro (⟨i, j, e1, _⟩ | ⟨i, j, e1, _⟩ | ⟨l, c, xs, zs, e1, e2, h⟩)
    · cases e1
    · cases e1
    · cases e1; cases e2; exact ⟨xs, zs, h⟩
  · exact fun ⟨xs, zs, h⟩ => .inr (.inr ⟨p, b, xs, zs, rfl, rfl, h⟩)
theorem szl {n : Nat} (h : n ≤ 100000) : n ≤ sizeLine := Nat.le_of_lt (sizeN h)
end KB
namespace KB
open PySem PySem.Spec PyProof.Rows L2 TL
/-! ### texts as lists of codes -/
/-- printable signs alone -/
def Pr (z : Str) : Prop := ∀ c ∈ tl z, 32 ≤ c ∧ c < 127
theorem Pr.app {x y : Str} (hx : Pr x) (hy : Pr y) : Pr (x ++ y) := fun c hc => by
  rw [tl_append] at hc
  rcases List.mem_append.mp hc with h | h
  · exact hx c h
  · exact hy c h
theorem pr_one {c : Nat} (h : 32 ≤ c ∧ c < 127) : Pr ⟨#[c]⟩ := fun d hd => by
  have e : d = c := List.mem_singleton.mp hd
  subst e
  exact h
theorem pr_lit {s : String} (h : (s.toList.map Char.toNat).all (fun c => decide (32 ≤ c) && decide (c < 127)) = true) : Pr (Str.ofString s) := fun c hc => by
  rw [tl_ofString] at hc
  have q := List.all_eq_true.mp h c hc
  simpa using q
theorem len_lit (s : String) : (Str.ofString s).length = s.toList.length := by rw [len_tl, tl_ofString, List.length_map]
theorem len_app (x y : Str) : (x ++ y).length = x.length + y.length := by rw [len_tl, tl_append, List.length_append, ← len_tl, ← len_tl]
theorem lit_at {z : Str} {n : Nat} (hn : (tl z).length = n) (h : (tl z).all (fun c => decide (32 ≤ c) && decide (c < 127)) = true) {r : Int} (r0 : 0 ≤ r) (r1 : r < n) : ∃ c, atI z.cps.toList r = some c ∧ 32 ≤ c ∧ c < 127 := by
  obtain ⟨j, rfl⟩ := Int.eq_ofNat_of_zero_le r0
  have hj : j < (tl z).length := by omega
  have q := List.all_eq_true.mp h (tl z)[j] (List.getElem_mem hj)
  simp only [Bool.and_eq_true, decide_eq_true_eq] at q
  exact ⟨(tl z)[j], atI_nat (List.getElem?_eq_getElem hj), q.1, q.2⟩
theorem lit_ex {z : Str} {n : Nat} {R : Nat → Prop} {r : Int} (hn : (tl z).length = n) (h : (tl z).all (fun c => decide (32 ≤ c) && decide (c < 127)) = true) (r0 : 0 ≤ r) (r1 : r < n) (k : ∀ c, 32 ≤ c → c < 127 → R c) : ∃ c, atI z.cps.toList r = some c ∧ R c := by
  obtain ⟨c, e, h1, h2⟩ := lit_at hn h r0 r1
  exact ⟨c, e, k c h1 h2⟩
theorem join_tl (a : Str) (zs : List Str) : tl (Txt.join a zs) = joinL (tl a) (zs.map tl) := by
  rw [join_eq, tl_join]
theorem joinL_nil : ∀ ls : List (List Nat), joinL [] ls = ls.flatten
  | [] => rfl
  | [p] => by simp [joinL]
  | p :: q :: r => by
    show p ++ ([] ++ joinL [] (q :: r)) = _
    rw [joinL_nil (q :: r)]
    simp
theorem join0 (zs : List Str) : tl (Txt.join (Str.ofString "") zs) = (zs.map tl).flatten := by
  rw [join_tl, show tl (Str.ofString "") = [] from by rw [tl_ofString]; rfl, joinL_nil]
theorem join_pr {zs : List Str} (h : ∀ z ∈ zs, Pr z) : Pr (Txt.join (Str.ofString "") zs) := fun c hc => by
  rw [join0] at hc
  obtain ⟨l, hl, h1⟩ := List.mem_flatten.mp hc
  obtain ⟨z, hz, rfl⟩ := List.mem_map.mp hl
  exact h z hz c h1
theorem join_len (zs : List Str) : (Txt.join (Str.ofString "") zs).length = (zs.map (·.length)).sum := by
  rw [len_tl, join0, List.length_flatten, List.map_map]
  refine congrArg List.sum ?_
  exact List.map_congr_left fun z _ => (len_tl z).symm
theorem len_ones {zs : List Str} (h : ∀ z ∈ zs, z.length = 1) : (zs.map (·.length)).sum = zs.length := by
  induction zs with
  | nil => rfl
  | cons z r ih =>
    rw [List.map_cons, List.sum_cons, h z (List.mem_cons_self ..), ih fun z hz => h z (List.mem_cons_of_mem _ hz), List.length_cons]
    omega
theorem tl_neg (n : Nat) (h : 0 < n) : tl (Str.ofString (toString (-(n : Int)))) = 45 :: numL n := by
  obtain ⟨m, rfl⟩ : ∃ m, n = m + 1 := ⟨n - 1, by omega⟩
  have e : toString (-((m + 1 : Nat) : Int)) = "-" ++ toString ((m + 1 : Nat) : Int) := rfl
  rw [e, tl_ofString, String.toList_append, List.map_append]
  rw [show List.map Char.toNat (toString ((m + 1 : Nat) : Int)).toList = numL (m + 1) from (tl_ofString _).symm.trans (tl_num (m + 1))]
  rfl
/-- the codes of str(n) -/
def intL (n : Int) : List Nat := if n < 0 then 45 :: numL n.natAbs else numL n.natAbs
theorem tl_int (n : Int) : tl (Str.ofString (toString n)) = intL n := by
  unfold intL
  split
  · have e : n = -((n.natAbs : Nat) : Int) := by omega
    have h := tl_neg n.natAbs (by omega)
    rw [← e] at h
    exact h
  · have e : n = ((n.natAbs : Nat) : Int) := by omega
    have h := tl_num n.natAbs
    rw [← e] at h
    exact h
theorem intL_sign {n : Int} {c : Nat} (h : c ∈ intL n) : c = 45 ∨ (48 ≤ c ∧ c ≤ 57) := by
  unfold intL at h
  split at h
  · rcases List.mem_cons.mp h with h | h
    · exact .inl h
    · exact .inr (numL_digits _ c h)
  · exact .inr (numL_digits _ c h)
theorem pr_int (n : Int) : Pr (Str.ofString (toString n)) := fun c hc => by
  rw [tl_int] at hc
  have h := intL_sign hc
  omega
theorem len_int {n : Int} {k : Nat} (hk : 0 < k) (h : n.natAbs < 10 ^ k) : (Str.ofString (toString n)).length ≤ k + 1 := by
  rw [len_tl, tl_int]
  have e := numL_len hk h
  unfold intL
  split
  · rw [List.length_cons]; omega
  · omega
theorem log_int {n : Int} (h : n.natAbs < 10 ^ 30) : n.natAbs.log2 < 1920 := by
  by_cases h0 : n.natAbs = 0
  · rw [h0]; decide
  · exact (Nat.log2_lt h0).mpr (Nat.lt_trans h (by decide +kernel))
theorem pow10 {a b : Nat} (h : a ≤ b) : (10 : Int) ^ a ≤ 10 ^ b := by
  have e := Nat.pow_le_pow_right (by decide : 0 < 10) h
  have e2 : ((10 ^ a : Nat) : Int) ≤ ((10 ^ b : Nat) : Int) := Int.ofNat_le.mpr e
  simpa using e2
/-- a key: an integer of at most thirty digits, a printable text -/
def KeyV (v : V) : Prop := (∃ n : Int, v = .int n ∧ n.natAbs < 10 ^ 30) ∨ ∃ z, v = .str z ∧ Pr z ∧ z.length ≤ 300
def okS (m : Nat) (z : Str) : Bool := (tl z).all (fun c => decide (32 ≤ c) && decide (c < 127)) && decide (z.length ≤ m)
theorem okS_pr {m : Nat} {z : Str} (h : okS m z = true) : Pr z ∧ z.length ≤ m := by
  unfold okS at h
  rw [Bool.and_eq_true] at h
  refine ⟨fun c hc => ?_, of_decide_eq_true h.2⟩
  have q := List.all_eq_true.mp h.1 c hc
  simpa using q
def okV (m : Nat) : V → Bool
  | .str z => okS m z
  | _ => false
theorem menu_at {vs : List V} {n : Nat} {r : Int} (hn : vs.length = n) (r0 : 0 ≤ r) (r1 : r < n) : ∃ v ∈ vs, atI vs r = some v := by
  obtain ⟨j, rfl⟩ := Int.eq_ofNat_of_zero_le r0
  have hj : j < vs.length := by omega
  exact ⟨vs[j], List.getElem_mem hj, atI_nat (List.getElem?_eq_getElem hj)⟩
theorem menu_ex {vs : List V} {n : Nat} {r : Int} {R : V → Prop} (hn : vs.length = n) (r0 : 0 ≤ r) (r1 : r < n) (k : ∀ v ∈ vs, R v) : ∃ v, atI vs r = some v ∧ R v := by
  obtain ⟨v, hv, e⟩ := menu_at hn r0 r1
  exact ⟨v, e, k v hv⟩
theorem menu_ok {vs : List V} {m n : Nat} {r : Int} {R : V → Prop} (hn : vs.length = n) (hz : vs.all (okV m) = true) (r0 : 0 ≤ r) (r1 : r < n) (k : ∀ z, Pr z → z.length ≤ m → R (.str z)) : ∃ v, atI vs r = some v ∧ R v := by
  obtain ⟨v, hv, e⟩ := menu_at hn r0 r1
  have q := List.all_eq_true.mp hz v hv
  cases v with
  | str z => exact ⟨_, e, k z (okS_pr q).1 (okS_pr q).2⟩
  | _ => cases q
/-! ### numbers read from digits -/
theorem digitsVal_snoc (l : List Nat) (c : Nat) : NumText.digitsVal (l ++ [c]) = NumText.digitsVal l * 10 + (c - 48) := by
  unfold NumText.digitsVal
  rw [List.foldl_append]
  rfl
theorem rev_ind {α : Type} {p : List α → Prop} (h0 : p []) (h1 : ∀ l a, p l → p (l ++ [a])) (l : List α) : p l := by
  rw [← List.reverse_reverse l]
  induction l.reverse with
  | nil => exact h0
  | cons a r ih => rw [List.reverse_cons]; exact h1 _ _ ih
theorem digitsVal_lt (l : List Nat) : NumText.AllDigits l → NumText.digitsVal l < 10 ^ l.length := by
  refine rev_ind (p := fun l => NumText.AllDigits l → NumText.digitsVal l < 10 ^ l.length) (fun _ => by decide) (fun r c ih hd => ?_) l
  have hc := hd c (by simp)
  have h1 := ih fun d h => hd d (List.mem_append_left _ h)
  rw [digitsVal_snoc, List.length_append, List.length_singleton, Nat.pow_succ]
  omega
theorem digits30 {l : List Nat} (hd : NumText.AllDigits l) (h : l.length ≤ 30) : NumText.digitsVal l < 10 ^ 30 := Nat.lt_of_lt_of_le (digitsVal_lt l hd) (Nat.pow_le_pow_right (by decide) h)
theorem digits_pos (l : List Nat) : NumText.AllDigits l → l ≠ [] → l.head? ≠ some 48 → 0 < NumText.digitsVal l := by
  refine rev_ind (p := fun l => NumText.AllDigits l → l ≠ [] → l.head? ≠ some 48 → 0 < NumText.digitsVal l) (fun _ h _ => absurd rfl h) (fun r c ih hd _ hh => ?_) l
  rw [digitsVal_snoc]
  have hc := hd c (by simp)
  cases r with
  | nil =>
    have : c ≠ 48 := fun e => hh (by simp [e])
    omega
  | cons x r =>
    have := ih (fun d h => hd d (List.mem_append_left _ h)) (by simp) (by simpa using hh)
    omega
theorem numL_back (l : List Nat) : NumText.AllDigits l → l ≠ [] → (l = [48] ∨ l.head? ≠ some 48) → numL (NumText.digitsVal l) = l := by
  refine rev_ind (p := fun l => NumText.AllDigits l → l ≠ [] → (l = [48] ∨ l.head? ≠ some 48) → numL (NumText.digitsVal l) = l) (fun _ h _ => absurd rfl h) (fun r c ih hd _ hh => ?_) l
  have hc := hd c (by simp)
  have hr : NumText.AllDigits r := fun d h => hd d (List.mem_append_left _ h)
  rw [digitsVal_snoc]
  cases r with
  | nil =>
    rw [show NumText.digitsVal [] * 10 + (c - 48) = c - 48 by simp [NumText.digitsVal]]
    rw [numL_lt (by omega)]
    simp
    omega
  | cons x r =>
    have hx : (x :: r).head? ≠ some 48 := by
      rcases hh with hh | hh
      · have := congrArg List.length hh
        simp at this
      · simpa using hh
    have hp := digits_pos (x :: r) hr (by simp) hx
    rw [numL_step (by omega)]
    rw [show (NumText.digitsVal (x :: r) * 10 + (c - 48)) / 10 = NumText.digitsVal (x :: r) by omega, show (NumText.digitsVal (x :: r) * 10 + (c - 48)) % 10 = c - 48 by omega, ih hr (by simp) (.inr hx)]
    congr 2
    omega
/-! ### digit keys -/
def isDg (c : Nat) : Bool := decide (48 ≤ c) && decide (c ≤ 57)
/-- what stands behind a minus sign, or the whole -/
def body (l : List Nat) : List Nat := if l.head? = some 45 then l.tail else l
def digK (l : List Nat) : Bool := decide (body l ≠ []) && decide ((body l).length ≤ 30) && (body l).all isDg && (decide (l = [48]) || decide ((body l).head? ≠ some 48))
theorem digK_int {z : Str} (h : digK (tl z) = true) : ∃ n, PySem.intText? z = some n ∧ Str.ofString (toString n) = z ∧ z.length ≤ 31 ∧ n.natAbs < 10 ^ 30 := by
  unfold digK at h
  simp only [Bool.and_eq_true, decide_eq_true_eq, Bool.or_eq_true] at h
  obtain ⟨⟨⟨h1, h2⟩, h3⟩, h4⟩ := h
  have hd : NumText.AllDigits (body (tl z)) := fun c hc => by
    have q := List.all_eq_true.mp h3 c hc
    simpa [isDg] using q
  by_cases hm : (tl z).head? = some 45
  · obtain ⟨r, er⟩ : ∃ r, tl z = 45 :: r := by
      cases e : tl z with
      | nil => rw [e] at hm; cases hm
      | cons x r => rw [e] at hm; cases hm; exact ⟨r, rfl⟩
    have eb : body (tl z) = r := by unfold body; rw [if_pos hm, er]; rfl
    rw [eb] at h1 h2 hd h4
    have h0 : r.head? ≠ some 48 := by
      rcases h4 with h4 | h4
      · rw [er] at h4; cases h4
      · exact h4
    have hp := digits_pos r hd h1 h0
    have hl : z.length ≤ 31 := by rw [len_tl, er, List.length_cons]; omega
    refine ⟨-((NumText.digitsVal r : Nat) : Int), intText_neg er hd h1 (by omega), ext_tl ?_, hl, by have := digits30 hd h2; omega⟩
    rw [tl_neg _ hp, er, numL_back r hd h1 (.inr h0)]
  · have eb : body (tl z) = tl z := by unfold body; rw [if_neg hm]
    rw [eb] at h1 h2 hd h4
    have hl : z.length ≤ 31 := by rw [len_tl]; omega
    refine ⟨((NumText.digitsVal (tl z) : Nat) : Int), intText_digits hd h1 (by omega), ext_tl ?_, hl, by have := digits30 hd h2; omega⟩
    rw [tl_num, numL_back _ hd h1 h4]
theorem uni_dig : ∀ c : Nat, c < 127 → Unicode.isDigit c = isDg c := by decide +kernel
theorem pr_body {z : Str} (h : Pr z) : ∀ c ∈ body (tl z), 32 ≤ c ∧ c < 127 := fun c hc => by
  unfold body at hc
  split at hc
  · exact h c (List.mem_of_mem_tail hc)
  · exact h c hc
theorem isdigit_pr {z : Str} (h : ∀ c ∈ tl z, 32 ≤ c ∧ c < 127) : Txt.isdigit z = (decide (tl z ≠ []) && (tl z).all isDg) := by
  have e1 : (decide (z.length > 0)) = decide (tl z ≠ []) := by
    rw [len_tl]
    cases tl z <;> simp
  have e2 : z.cps.all Unicode.isDigit = (tl z).all isDg := by
    rw [← Array.all_toList]
    rw [Bool.eq_iff_iff, List.all_eq_true, List.all_eq_true]
    exact ⟨fun q c hc => by rw [← uni_dig c (h c hc).2]; exact q c hc, fun q c hc => by rw [uni_dig c (h c hc).2]; exact q c hc⟩
  unfold Txt.isdigit
  rw [e1, e2]
theorem rm_minus (z : Str) : tl (Txt.removeprefix z (Str.ofString "-")) = body (tl z) := by
  rw [PySem.StrLaws.removeprefix_eq]
  have hm : (Str.ofString "-").length = 1 := by decide +kernel
  have hs : Builtin.Str.subAt z (Str.ofString "-") 0 = decide ((tl z).head? = some 45) := by
    unfold Builtin.Str.subAt
    rw [hm]
    have e : (z.cps.extract 0 (0 + 1)).toList = (tl z).take 1 := by simp [tl]
    have e2 : (Str.ofString "-").cps = #[45] := by decide +kernel
    rw [e2]
    have e3 : (z.cps.extract 0 (0 + 1) == #[45]) = ((tl z).take 1 == [45]) := by
      rw [← e]
      rw [Bool.eq_iff_iff, beq_iff_eq, beq_iff_eq]
      exact ⟨fun h => by rw [h], fun h => Array.toList_inj.mp h⟩
    rw [e3]
    cases tl z with
    | nil => rfl
    | cons x r =>
      rw [Bool.eq_iff_iff, beq_iff_eq, decide_eq_true_eq]
      simp
  rw [hs, hm]
  unfold body
  by_cases h : (tl z).head? = some 45
  · have hl : 0 + 1 ≤ z.length := by
      rw [len_tl]
      cases e : tl z with
      | nil => rw [e] at h; cases h
      | cons x r => simp
    rw [decide_eq_true hl, decide_eq_true h, Bool.and_self, if_pos (rfl : true = true), if_pos h]
    show ((tl z).drop 1).take (z.length - 1) = (tl z).tail
    rw [List.drop_one, List.take_of_length_le (by rw [List.length_tail, len_tl]; exact Nat.le_refl _)]
  · rw [decide_eq_false h, Bool.and_false, if_neg Bool.false_ne_true, if_neg h]
/-- the code at 0 -/
theorem atI_head {l : List Nat} (h : l ≠ []) : ∃ c, atI l 0 = some c ∧ l.head? = some c := by
  cases l with
  | nil => exact absurd rfl h
  | cons x r => exact ⟨x, atI_nat (j := 0) rfl, rfl⟩
theorem one_eq {c d : Nat} {s : String} (h : tl (Str.ofString s) = [d]) : decide ((⟨#[c]⟩ : Str) = Str.ofString s) = decide (c = d) := by
  rw [Bool.eq_iff_iff, decide_eq_true_eq, decide_eq_true_eq]
  constructor
  · intro e
    have e2 := congrArg tl e
    rw [h] at e2
    cases e2
    rfl
  · rintro rfl
    exact ext_tl (by rw [h])
theorem one_iff {c d : Nat} {s : String} (h : tl (Str.ofString s) = [d]) : ((⟨#[c]⟩ : Str) = Str.ofString s) ↔ c = d := by
  have e := one_eq (c := c) h
  by_cases h1 : c = d
  · rw [decide_eq_true h1] at e; exact iff_of_true (of_decide_eq_true e) h1
  · rw [decide_eq_false h1] at e; exact iff_of_false (of_decide_eq_false e) h1
theorem str_eq_iff {z : Str} {s : String} {l : List Nat} (h : tl (Str.ofString s) = l) : (z = Str.ofString s) ↔ tl z = l := by
  constructor
  · rintro rfl
    exact h
  · intro e
    exact ext_tl (by rw [h, e])
theorem tl_cutS (z : Str) (lo hi : Option Int) : tl (cutS z lo hi) = ((tl z).drop (HT.sIx z.length 0 lo)).take (HT.sIx z.length z.length hi - HT.sIx z.length 0 lo) := rfl
theorem cut_head (z : Str) : tl (cutS z none (some 1)) = (tl z).take 1 := by
  rw [tl_cutS, HT.sIx_none, show HT.sIx z.length z.length (some 1) = min 1 z.length from HT.sIx_nat _ _ 1, len_tl, List.drop_zero]
  cases tl z <;> simp
theorem cut_tail (z : Str) : tl (cutS z (some 1) none) = (tl z).tail := by
  rw [tl_cutS, HT.sIx_none, show HT.sIx z.length 0 (some 1) = min 1 z.length from HT.sIx_nat _ _ 1, len_tl]
  cases tl z with
  | nil => rfl
  | cons x r =>
    rw [show min 1 (x :: r).length = 1 by rw [List.length_cons]; omega]
    show List.take ((x :: r).length - 1) r = r
    rw [List.length_cons, Nat.add_sub_cancel]
    exact List.take_length
theorem take1_eq {l : List Nat} {c : Nat} : l.take 1 = [c] ↔ l.head? = some c := by
  cases l <;> simp
theorem body_len (l : List Nat) : (body l).length ≤ l.length := by
  unfold body
  split
  · rw [List.length_tail]; omega
  · exact Nat.le_refl _
theorem dg_mem (c : Nat) : (c ∈ (Str.ofString "0123456789").cps.toList) ↔ isDg c = true := by
  rw [show (Str.ofString "0123456789").cps.toList = [48, 49, 50, 51, 52, 53, 54, 55, 56, 57] by decide +kernel]
  simp only [isDg, Bool.and_eq_true, decide_eq_true_eq, List.mem_cons, List.not_mem_nil, or_false]
  omega
end KB
namespace KB
open PySem PySem.Spec PyProof.Rows L2 TL
/-! ### raw values -/
inductive Raw where
  | non
  | bl (b : Bool)
  | int (n : Int)
  | str (z : Str)
  | row (rs : List Raw)
  | tab (zs : List Str) (rs : List Raw)
mutual
def Rp (H : Hp) : Raw → V → Prop
  | .non, v => v = .non
  | .bl b, v => v = .bl b
  | .int n, v => v = .int n
  | .str z, v => v = .str z
  | .row rs, v => ∃ t l vs, v = .ref t ∧ H t = some (.tup [.str "row", .ref l]) ∧ H l = some (.lst vs) ∧ RpL H rs vs
  | .tab zs rs, v => ∃ t l vs, v = .ref t ∧ H t = some (.tup [.str "table", .ref l]) ∧ H l = some (.lst vs) ∧ RpP H rs zs vs
def RpL (H : Hp) : List Raw → List V → Prop
  | [], vs => vs = []
  | r :: rs, vs => ∃ v ws, vs = v :: ws ∧ Rp H r v ∧ RpL H rs ws
def RpP (H : Hp) : List Raw → List Str → List V → Prop
  | [], zs, vs => zs = [] ∧ vs = []
  | r :: rs, zs, vs => ∃ z ys t v ws, zs = z :: ys ∧ vs = .ref t :: ws ∧ H t = some (.tup [.str z, v]) ∧ Rp H r v ∧ RpP H rs ys ws
end
mutual
theorem Rp.mono {H H' : Hp} (s : Same H H') : ∀ (r : Raw) (v : V), Rp H r v → Rp H' r v
  | .non, _, h => h
  | .bl _, _, h => h
  | .int _, _, h => h
  | .str _, _, h => h
  | .row rs, v, h => by
    obtain ⟨t, l, vs, e, h1, h2, h3⟩ := h
    exact ⟨t, l, vs, e, s _ _ h1, s _ _ h2, RpL.mono s rs vs h3⟩
  | .tab zs rs, v, h => by
    obtain ⟨t, l, vs, e, h1, h2, h3⟩ := h
    exact ⟨t, l, vs, e, s _ _ h1, s _ _ h2, RpP.mono s rs zs vs h3⟩
theorem RpL.mono {H H' : Hp} (s : Same H H') : ∀ (rs : List Raw) (vs : List V), RpL H rs vs → RpL H' rs vs
  | [], _, h => h
  | r :: rs, _, h => by
    obtain ⟨v, ws, e, h1, h2⟩ := h
    exact ⟨v, ws, e, Rp.mono s r v h1, RpL.mono s rs ws h2⟩
theorem RpP.mono {H H' : Hp} (s : Same H H') : ∀ (rs : List Raw) (zs : List Str) (vs : List V), RpP H rs zs vs → RpP H' rs zs vs
  | [], _, _, h => h
  | r :: rs, _, _, h => by
    obtain ⟨z, ys, t, v, ws, e1, e2, h0, h1, h2⟩ := h
    exact ⟨z, ys, t, v, ws, e1, e2, s _ _ h0, Rp.mono s r v h1, RpP.mono s rs ys ws h2⟩
end
mutual
def nodes : Raw → Nat
  | .row rs => 1 + nodesL rs
  | .tab _ rs => 1 + nodesL rs
  | _ => 1
def nodesL : List Raw → Nat
  | [] => 0
  | r :: rs => nodes r + nodesL rs
end
mutual
def depth : Raw → Nat
  | .row rs => 1 + depthL rs
  | .tab _ rs => 1 + depthL rs
  | _ => 0
def depthL : List Raw → Nat
  | [] => 0
  | r :: rs => max (depth r) (depthL rs)
end
mutual
def OkR : Raw → Prop
  | .non => True
  | .bl _ => True
  | .int n => n.natAbs < 10 ^ 30
  | .str z => Pr z ∧ z.length ≤ 300
  | .row rs => OkL rs
  | .tab zs rs => OkL rs ∧ zs.length = rs.length ∧ ∀ z ∈ zs, Pr z ∧ z.length ≤ 300
def OkL : List Raw → Prop
  | [] => True
  | r :: rs => OkR r ∧ OkL rs
end
theorem RpL.len {H : Hp} : ∀ {rs : List Raw} {vs : List V}, RpL H rs vs → vs.length = rs.length
  | [], _, h => by cases h; rfl
  | r :: rs, _, h => by
    obtain ⟨v, ws, rfl, h1, h2⟩ := h
    rw [List.length_cons, List.length_cons, h2.len]
theorem RpP.len {H : Hp} : ∀ {rs : List Raw} {zs : List Str} {vs : List V}, RpP H rs zs vs → vs.length = rs.length ∧ zs.length = rs.length
  | [], _, _, h => by obtain ⟨rfl, rfl⟩ := h; exact ⟨rfl, rfl⟩
  | r :: rs, _, _, h => by
    obtain ⟨z, ys, t, v, ws, rfl, rfl, h0, h1, h2⟩ := h
    have := h2.len
    simp only [List.length_cons]
    omega
theorem RpL.snoc {H : Hp} : ∀ {rs : List Raw} {vs : List V} {r : Raw} {v : V}, RpL H rs vs → Rp H r v → RpL H (rs ++ [r]) (vs ++ [v])
  | [], _, r, v, h, h1 => by cases h; exact ⟨v, [], rfl, h1, rfl⟩
  | q :: rs, _, r, v, h, h1 => by
    obtain ⟨w, ws, rfl, h2, h3⟩ := h
    exact ⟨w, ws ++ [v], rfl, h2, h3.snoc h1⟩
theorem RpP.snoc {H : Hp} : ∀ {rs : List Raw} {zs : List Str} {vs : List V} {r : Raw} {z : Str} {t : Addr} {v : V}, RpP H rs zs vs → H t = some (.tup [.str z, v]) → Rp H r v → RpP H (rs ++ [r]) (zs ++ [z]) (vs ++ [.ref t])
  | [], _, _, r, z, t, v, h, h0, h1 => by obtain ⟨rfl, rfl⟩ := h; exact ⟨z, [], t, v, [], rfl, rfl, h0, h1, rfl, rfl⟩
  | q :: rs, _, _, r, z, t, v, h, h0, h1 => by
    obtain ⟨y, ys, u, w, ws, rfl, rfl, h3, h4, h5⟩ := h
    exact ⟨y, ys ++ [z], u, w, ws ++ [.ref t], rfl, rfl, h3, h4, h5.snoc h0 h1⟩
theorem RpL.get {H : Hp} : ∀ {rs : List Raw} {vs : List V} {i : Nat} {v : V}, RpL H rs vs → vs[i]? = some v → ∃ r, rs[i]? = some r ∧ Rp H r v
  | [], _, i, v, h, e => by cases h; simp at e
  | q :: rs, _, i, v, h, e => by
    obtain ⟨w, ws, rfl, h2, h3⟩ := h
    cases i with
    | zero => cases e; exact ⟨q, rfl, h2⟩
    | succ i => exact RpL.get (i := i) h3 (by simpa using e)
theorem RpP.get {H : Hp} : ∀ {rs : List Raw} {zs : List Str} {vs : List V} {i : Nat} {v : V}, RpP H rs zs vs → vs[i]? = some v → ∃ r z t u, rs[i]? = some r ∧ zs[i]? = some z ∧ v = .ref t ∧ H t = some (.tup [.str z, u]) ∧ Rp H r u
  | [], _, _, i, v, h, e => by obtain ⟨rfl, rfl⟩ := h; simp at e
  | q :: rs, _, _, i, v, h, e => by
    obtain ⟨y, ys, t, w, ws, rfl, rfl, h3, h4, h5⟩ := h
    cases i with
    | zero => cases e; exact ⟨q, y, t, w, rfl, rfl, rfl, h3, h4⟩
    | succ i => exact RpP.get (i := i) h5 (by simpa using e)
theorem OkL.get : ∀ {rs : List Raw} {i : Nat} {r : Raw}, OkL rs → rs[i]? = some r → OkR r
  | [], i, r, _, e => by simp at e
  | q :: rs, i, r, h, e => by
    cases i with
    | zero => cases e; exact h.1
    | succ i => exact OkL.get (i := i) h.2 (by simpa using e)
theorem OkL.snoc : ∀ {rs : List Raw} {r : Raw}, OkL rs → OkR r → OkL (rs ++ [r])
  | [], r, _, h => ⟨h, trivial⟩
  | q :: rs, r, h, h1 => ⟨h.1, h.2.snoc h1⟩
theorem nodesL_snoc : ∀ (rs : List Raw) (r : Raw), nodesL (rs ++ [r]) = nodesL rs + nodes r
  | [], r => by simp [nodesL]
  | q :: rs, r => by simp only [List.cons_append, nodesL, nodesL_snoc rs r]; omega
theorem depthL_snoc : ∀ (rs : List Raw) (r : Raw), depthL (rs ++ [r]) = max (depthL rs) (depth r)
  | [], r => by simp [depthL]
  | q :: rs, r => by simp only [List.cons_append, depthL, depthL_snoc rs r]; omega
theorem depth_get : ∀ {rs : List Raw} {i : Nat} {r : Raw}, rs[i]? = some r → depth r ≤ depthL rs
  | [], i, r, e => by simp at e
  | q :: rs, i, r, e => by
    cases i with
    | zero => cases e; simp only [depthL]; omega
    | succ i => have := depth_get (rs := rs) (i := i) (by simpa using e); simp only [depthL]; omega
/-! ### parts of heaps -/
/-- all but one address -/
def hid (H : Hp) (d : Addr) : Hp := fun b => if b = d then none else H b
/-- what is new in the second one -/
def new (H H' : Hp) : Hp := fun b => if (H b).isSome then none else H' b
theorem hid_upd {H : Hp} {d : Addr} {o : HO} : hid (upd H d o) d = hid H d := by
  funext b
  unfold hid upd
  split <;> rfl
theorem hid_same {H : Hp} {d : Addr} : Same (hid H d) H := fun b o h => by
  unfold hid at h
  split at h
  · cases h
  · exact h
theorem new_same {H H' : Hp} : Same (new H H') H' := fun b o h => by
  unfold new at h
  split at h
  · cases h
  · exact h
theorem new_hid {H H' : Hp} {d : Addr} {o : HO} (hd : H d = some o) : Same (new H H') (hid H' d) := fun b u h => by
  have e := h
  unfold new at h
  split at h
  · cases h
  · unfold hid
    rw [if_neg]
    · exact h
    · rintro rfl
      rename_i n
      rw [hd] at n
      exact n rfl
theorem hid_get {H : Hp} {d b : Addr} {o : HO} (h : H b = some o) (n : b ≠ d) : hid H d b = some o := by
  unfold hid
  rw [if_neg n]
  exact h
/-- a dict is no part of raw values: what a Keep leaves -/
def noD (H : Hp) : Hp := fun b => match H b with
  | some (.dK _) => none
  | o => o
theorem noD_same {H : Hp} : Same (noD H) H := fun b o h => by
  unfold noD at h
  split at h
  · cases h
  · exact h
mutual
theorem Rp.noD {H : Hp} : ∀ (r : Raw) (v : V), Rp H r v → Rp (noD H) r v
  | .non, _, h => h
  | .bl _, _, h => h
  | .int _, _, h => h
  | .str _, _, h => h
  | .row rs, v, h => by
    obtain ⟨t, l, vs, e, h1, h2, h3⟩ := h
    exact ⟨t, l, vs, e, by unfold KB.noD; rw [h1], by unfold KB.noD; rw [h2], RpL.noD rs vs h3⟩
  | .tab zs rs, v, h => by
    obtain ⟨t, l, vs, e, h1, h2, h3⟩ := h
    exact ⟨t, l, vs, e, by unfold KB.noD; rw [h1], by unfold KB.noD; rw [h2], RpP.noD rs zs vs h3⟩
theorem RpL.noD {H : Hp} : ∀ (rs : List Raw) (vs : List V), RpL H rs vs → RpL (noD H) rs vs
  | [], _, h => h
  | r :: rs, _, h => by
    obtain ⟨v, ws, e, h1, h2⟩ := h
    exact ⟨v, ws, e, Rp.noD r v h1, RpL.noD rs ws h2⟩
theorem RpP.noD {H : Hp} : ∀ (rs : List Raw) (zs : List Str) (vs : List V), RpP H rs zs vs → RpP (noD H) rs zs vs
  | [], _, _, h => h
  | r :: rs, _, _, h => by
    obtain ⟨z, ys, t, v, ws, e1, e2, h0, h1, h2⟩ := h
    exact ⟨z, ys, t, v, ws, e1, e2, by unfold KB.noD; rw [h0], Rp.noD r v h1, RpP.noD rs ys ws h2⟩
end
/-- a leaf -/
def LeafR : Raw → Prop
  | .row _ => False
  | .tab _ _ => False
  | _ => True
theorem leaf_rp {H H' : Hp} : ∀ {r : Raw} {v : V}, LeafR r → Rp H r v → Rp H' r v
  | .non, _, _, h => h
  | .bl _, _, _, h => h
  | .int _, _, _, h => h
  | .str _, _, _, h => h
/-! ### a list of flat things compared with [] -/
def FlatP : V → Prop
  | .non => True
  | .bl _ => True
  | .int _ => True
  | .str z => Pr z
  | _ => False
theorem pr_strOk {z : Str} (h : Pr z) : PyData.strOk z = true := by
  unfold PyData.strOk
  rw [← Array.all_toList, List.all_eq_true]
  intro c hc
  have := (h c hc).2
  exact decide_eq_true (by omega)
theorem dp_flatP {K : PySem.W.Frag} {H : Hp} : ∀ {x : V}, FlatP x → ∃ d : PyData, Dp K H x d ∧ d.canLay0 = true ∧ d.depth ≤ 1
  | .non, _ => ⟨_, .non, rfl, by decide⟩
  | .bl b, _ => ⟨_, .bl b, rfl, Nat.zero_le _⟩
  | .int i, _ => ⟨_, .int i, rfl, Nat.zero_le _⟩
  | .str z, h => ⟨_, .str z, pr_strOk h, Nat.zero_le _⟩
theorem dp_flatL {K : PySem.W.Frag} {H : Hp} : ∀ {xs : List V}, (∀ x ∈ xs, FlatP x) → ∃ ds : List PyData, DpAll K H xs ds ∧ PyData.canLayAll0 ds = true ∧ PyData.depthAll ds ≤ 1 ∧ ds.length = xs.length
  | [], _ => ⟨[], .nil, rfl, Nat.zero_le _, rfl⟩
  | x :: xs, h => by
    obtain ⟨d, h1, h2, h3⟩ := dp_flatP (K := K) (H := H) (h x (List.mem_cons_self ..))
    obtain ⟨ds, g1, g2, g3, g4⟩ := dp_flatL (K := K) (H := H) fun y hy => h y (List.mem_cons_of_mem _ hy)
    refine ⟨d :: ds, .cons h1 g1, ?_, ?_, by simp [g4]⟩
    · show (d.canLay0 && PyData.canLayAll0 ds) = true
      rw [h2, g2]; rfl
    · show max d.depth (PyData.depthAll ds) ≤ 1
      omega
theorem ne_nil {K : PySem.W.Frag} {H : Hp} {Q : VK} {p q : Addr} {xs : List V} (n : Bool) (hp : H p = some (.lst xs)) (hq : H q = some (.lst [])) (hx : ∀ x ∈ xs, FlatP x) (h : Q (.bl (n ^^ xs.isEmpty)) H) : rEqA K n (.ref p) (.ref q) H Q := by
  obtain ⟨ds, g1, g2, g3, g4⟩ := dp_flatL (K := K) (H := H) hx
  refine .inr ⟨⟨p, .inl rfl⟩, .list ds, .list [], .lst (.inl (.inl hp)) g1, .lst (.inl (.inl hq)) .nil, ?_, by decide, ?_⟩
  · show (PyData.canLayAll0 ds && decide (PyData.depth (.list ds) ≤ 64)) = true
    have e : PyData.depth (.list ds) ≤ 64 := by
      show PyData.depthAll ds + 1 ≤ 64
      omega
    rw [g2, decide_eq_true e]; rfl
  · have e : PyData.eqv (.list ds) (.list []) = xs.isEmpty := by
      cases xs <;> cases ds <;> first | rfl | (simp at g4)
    rw [e]
    exact h
/-! ### Keep and raw values -/
theorem keep_noD {a : Addr} {H H' : Hp} {kvs : List (Key × V)} (k : Keep a H H') (ha : H a = some (.dK kvs)) : Same (noD H) H' := fun b o h => by
  have h1 := noD_same b o h
  refine k b o h1 fun e => ?_
  subst e
  unfold noD at h
  rw [ha] at h
  cases h
theorem keep_hid {a d : Addr} {H H' : Hp} {kvs : List (Key × V)} (k : Keep a H H') (ha : H a = some (.dK kvs)) : Same (noD (hid H d)) (hid H' d) := fun b o h => by
  have h1 := noD_same b o h
  have h2 := hid_same b o h1
  have nd : b ≠ d := fun e => by
    subst e
    unfold hid at h1
    rw [if_pos rfl] at h1
    cases h1
  refine hid_get (k b o h2 fun e => ?_) nd
  subst e
  unfold noD at h
  rw [hid_get ha nd] at h
  cases h
theorem src_dk {H : Hp} {a c : Addr} {rm : Int} (h : Src H a c rm) : ∃ kvs, H a = some (.dK kvs) := by
  obtain ⟨ns, at_, rest, seed, long, ha, _⟩ := h
  exact ⟨_, ha⟩
/-- new against an elder heap -/
theorem new_elder {a : Addr} {H H1 H2 : Hp} {o : HO} (k : Keep a H H1) (ha : H1 a = some o) : Same (new H1 H2) (new H H2) := fun b u h => by
  have h1 := new_same b u h
  unfold new at h ⊢
  split at h
  · cases h
  · rename_i n
    rw [if_neg]
    · exact h
    · intro hs
      obtain ⟨x, hx⟩ := Option.isSome_iff_exists.mp hs
      by_cases e : b = a
      · subst e; rw [ha] at n; exact n rfl
      · rw [k b x hx e] at n; exact n rfl
/-! ### a list at d grows by new raw values -/
theorem hid_new_upd {H H' : Hp} {d : Addr} {o : HO} : hid (new H (upd H' d o)) d = hid (new H H') d := by
  funext b
  unfold hid new
  split
  · rfl
  · rename_i n
    rw [upd_ne n]
/-- what stood in the part stands behind a Keep -/
theorem new_keep {a d : Addr} {H H2 H3 : Hp} {kvs : List (Key × V)} (k : Keep a H2 H3) (ha : H2 a = some (.dK kvs)) : Same (noD (hid (new H H2) d)) (hid (new H H3) d) := fun b o h => by
  have h1 := noD_same b o h
  have h2 := hid_same b o h1
  have nd : b ≠ d := fun e => by
    subst e
    unfold hid at h1
    rw [if_pos rfl] at h1
    cases h1
  have h3 := new_same b o h2
  have na : b ≠ a := fun e => by
    subst e
    unfold noD at h
    rw [h1] at h
    rw [ha] at h3
    cases h3
    cases h
  have hn : ¬ (H b).isSome = true := fun z => by
    unfold new at h2
    rw [if_pos z] at h2
    cases h2
  refine hid_get ?_ nd
  unfold new
  rw [if_neg hn]
  exact k b o h3 na
/-- what a call made is of the part -/
theorem new_made {a d : Addr} {H H2 H3 : Hp} {o u : HO} (k : Keep a H H2) (ha : H2 a = some o) (hd : H2 d = some u) : Same (new H2 H3) (hid (new H H3) d) := fun b x h => by
  have h1 := new_elder k ha b x h
  refine hid_get h1 fun e => ?_
  subst e
  unfold new at h
  rw [hd] at h
  cases h
theorem new_of {H H' : Hp} {b : Addr} {o : HO} (h : H b = none) (h' : H' b = some o) : new H H' b = some o := by
  unfold new
  rw [h]
  exact h'
theorem new_more {H H' : Hp} {d t : Addr} {o : HO} (ht : H' t = none) : Same (hid (new H H') d) (hid (new H (upd H' t o)) d) := fun b u h => by
  have h1 := hid_same b u h
  have h2 := new_same b u h1
  have nd : b ≠ d := fun e => by
    subst e
    unfold hid at h
    rw [if_pos rfl] at h
    cases h
  refine hid_get ?_ nd
  unfold new at h1 ⊢
  split at h1
  · cases h1
  · rename_i n
    rw [if_neg n, upd_ne (ne_of_none h2 ht)]
    exact h2
theorem new_keep0 {a : Addr} {H H2 H3 : Hp} {kvs : List (Key × V)} (k : Keep a H2 H3) (ha : H2 a = some (.dK kvs)) : Same (noD (new H H2)) (new H H3) := fun b o h => by
  have h2 := noD_same b o h
  have h3 := new_same b o h2
  have na : b ≠ a := fun e => by
    subst e
    unfold noD at h
    rw [h2] at h
    rw [ha] at h3
    cases h3
    cases h
  have hn : ¬ (H b).isSome = true := fun z => by
    unfold new at h2
    rw [if_pos z] at h2
    cases h2
  unfold new
  rw [if_neg hn]
  exact k b o h3 na
theorem new_more0 {H H' : Hp} {t : Addr} {o : HO} (ht : H' t = none) : Same (new H H') (new H (upd H' t o)) := fun b u h1 => by
  have h2 := new_same b u h1
  unfold new at h1 ⊢
  split at h1
  · cases h1
  · rename_i n
    rw [if_neg n, upd_ne (ne_of_none h2 ht)]
    exact h2
theorem rp_keep {a c : Addr} {rm : Int} {H H2 H3 : Hp} {r : Raw} {v : V} (k : Keep a H2 H3) (s : Src H2 a c rm) (h : Rp (new H H2) r v) : Rp (new H H3) r v := by
  obtain ⟨kvs, ha⟩ := src_dk s
  exact Rp.mono (new_keep0 k ha) _ _ (Rp.noD _ _ h)
/-! ### the same, where nothing that stood changes -/
theorem sm_old {H H2 H3 : Hp} {d : Addr} (s : Same H2 H3) : Same (hid (new H H2) d) (hid (new H H3) d) := fun b o h => by
  have h1 := hid_same b o h
  have h2 := new_same b o h1
  have nd : b ≠ d := fun e => by
    subst e
    unfold hid at h
    rw [if_pos rfl] at h
    cases h
  refine hid_get ?_ nd
  unfold new at h1 ⊢
  split at h1
  · cases h1
  · rename_i n
    rw [if_neg n]
    exact s _ _ h2
theorem sm_made {H H2 H3 : Hp} {d : Addr} {u : HO} (s : Same H H2) (hd : H2 d = some u) : Same (new H2 H3) (hid (new H H3) d) := fun b x h => by
  have h2 := new_same b x h
  have hn : ¬ (H2 b).isSome = true := fun z => by
    unfold new at h
    rw [if_pos z] at h
    cases h
  have nd : b ≠ d := fun e => by
    subst e
    rw [hd] at hn
    exact hn rfl
  refine hid_get ?_ nd
  unfold new
  rw [if_neg]
  · exact h2
  · intro z
    obtain ⟨y, hy⟩ := Option.isSome_iff_exists.mp z
    rw [s b y hy] at hn
    exact hn rfl
theorem sm_new {H : Hp} {p : Addr} {o : HO} (h : H p = none) : Same H (upd H p o) := fun b u e => by
  rw [upd_ne (ne_of_none e h)]
  exact e
/-- an object that was not there at H changes -/
theorem sm_mut {H H2 : Hp} {d : Addr} {o : HO} (hd : H d = none) (s : Same H H2) : Same H (upd H2 d o) := fun b u e => by
  rw [upd_ne (ne_of_none e hd)]
  exact s b u e
end KB
namespace KB
open PySem PySem.Spec PyProof.Rows L2 TL
/-! ### the texts of raw values -/
def escC (c : Nat) : List Nat := if c = 34 ∨ c = 92 then [92, c] else [c]
def esc (l : List Nat) : List Nat := l.flatMap escC
def strL (l : List Nat) : List Nat := 34 :: (esc l ++ [34])
mutual
def rend : Raw → List Nat
  | .non => [110, 117, 108, 108]
  | .bl true => [116, 114, 117, 101]
  | .bl false => [102, 97, 108, 115, 101]
  | .int n => intL n
  | .str z => strL (tl z)
  | .row rs => 91 :: (joinL [44] (rendL rs) ++ [93])
  | .tab zs rs => 123 :: (joinL [44] (rendP rs zs) ++ [125])
def rendL : List Raw → List (List Nat)
  | [] => []
  | r :: rs => rend r :: rendL rs
def rendP : List Raw → List Str → List (List Nat)
  | [], _ => []
  | r :: rs, zs => (strL (tl (zs.headD Str.empty)) ++ 58 :: rend r) :: rendP rs zs.tail
end
theorem esc_len (l : List Nat) : (esc l).length ≤ 2 * l.length := by
  induction l with
  | nil => exact Nat.zero_le _
  | cons c r ih =>
    show (escC c ++ esc r).length ≤ _
    have : (escC c).length ≤ 2 := by unfold escC; split <;> simp
    rw [List.length_append, List.length_cons]
    omega
theorem strL_len (l : List Nat) : (strL l).length ≤ 2 * l.length + 2 := by
  have := esc_len l
  unfold strL
  rw [List.length_cons, List.length_append, List.length_singleton]
  omega
theorem join_sum (s : Nat) : ∀ ls : List (List Nat), (joinL [s] ls).length ≤ (ls.map List.length).sum + ls.length
  | [] => by simp [joinL]
  | [p] => by simp [joinL]
  | p :: q :: r => by
    have ih := join_sum s (q :: r)
    show (p ++ ([s] ++ joinL [s] (q :: r))).length ≤ _
    simp only [List.length_append, List.map_cons, List.sum_cons, List.length_cons, List.length_nil] at ih ⊢
    omega
mutual
theorem rend_len : ∀ r : Raw, OkR r → (rend r).length + 700 ≤ 2000 * nodes r
  | .non, _ => by decide
  | .bl true, _ => by decide
  | .bl false, _ => by decide
  | .int n, h => by
    have := len_int (n := n) (k := 30) (by decide) h
    rw [len_tl, tl_int] at this
    show (intL n).length + 700 ≤ 2000 * 1
    omega
  | .str z, h => by
    have h1 := strL_len (tl z)
    have h2 := h.2
    rw [len_tl] at h2
    show (strL (tl z)).length + 700 ≤ 2000 * 1
    omega
  | .row rs, h => by
    have h1 := rendL_len rs h
    have h2 := join_sum 44 (rendL rs)
    show (91 :: (joinL [44] (rendL rs) ++ [93])).length + 700 ≤ 2000 * (1 + nodesL rs)
    simp only [List.length_cons, List.length_append, List.length_nil]
    omega
  | .tab zs rs, h => by
    have h1 := rendP_len rs zs h.1 h.2.2
    have h2 := join_sum 44 (rendP rs zs)
    show (123 :: (joinL [44] (rendP rs zs) ++ [125])).length + 700 ≤ 2000 * (1 + nodesL rs)
    simp only [List.length_cons, List.length_append, List.length_nil]
    omega
theorem rendL_len : ∀ rs : List Raw, OkL rs → ((rendL rs).map List.length).sum + (rendL rs).length ≤ 2000 * nodesL rs
  | [], _ => Nat.le_refl _
  | r :: rs, h => by
    have h1 := rend_len r h.1
    have h2 := rendL_len rs h.2
    show ((rend r :: rendL rs).map List.length).sum + (rend r :: rendL rs).length ≤ 2000 * (nodes r + nodesL rs)
    simp only [List.map_cons, List.sum_cons, List.length_cons]
    have : 1 ≤ nodes r := by cases r <;> simp [nodes] <;> omega
    omega
theorem rendP_len : ∀ (rs : List Raw) (zs : List Str), OkL rs → (∀ z ∈ zs, Pr z ∧ z.length ≤ 300) → ((rendP rs zs).map List.length).sum + (rendP rs zs).length ≤ 2000 * nodesL rs
  | [], _, _, _ => Nat.zero_le _
  | r :: rs, zs, h, hz => by
    have h1 := rend_len r h.1
    have h2 := rendP_len rs zs.tail h.2 fun z hz' => hz z (List.mem_of_mem_tail hz')
    have h3 := strL_len (tl (zs.headD Str.empty))
    have h4 : (tl (zs.headD Str.empty)).length ≤ 300 := by
      cases zs with
      | nil => decide
      | cons z zs => rw [← len_tl]; exact (hz z (List.mem_cons_self ..)).2
    show (((strL (tl (zs.headD Str.empty)) ++ 58 :: rend r) :: rendP rs zs.tail).map List.length).sum + ((strL (tl (zs.headD Str.empty)) ++ 58 :: rend r) :: rendP rs zs.tail).length ≤ 2000 * (nodes r + nodesL rs)
    simp only [List.map_cons, List.sum_cons, List.length_cons, List.length_append]
    have : 1 ≤ nodes r := by cases r <;> simp [nodes] <;> omega
    omega
end
/-! ### replace -/
theorem repl_one {c : Nat} {z : List Nat} : ∀ l : List Nat, PySem.StrLaws.replL [c] z l = l.flatMap fun d => if d = c then z else [d]
  | [] => PySem.StrLaws.replL_nil
  | d :: r => by
    by_cases h : d = c
    · subst h
      rw [PySem.StrLaws.replL_hit (by simp) (by simp)]
      show z ++ PySem.StrLaws.replL [d] z r = _
      rw [repl_one r, List.flatMap_cons, if_pos rfl]
    · rw [PySem.StrLaws.replL_miss (by simpa using h), repl_one r, List.flatMap_cons, if_neg h]
      rfl
theorem repl_two (x : Str) : tl (Txt.replace (Txt.replace x (Str.ofString "\\") (Str.ofString "\\\\")) (Str.ofString "\"") (Str.ofString "\\\"")) = esc (tl x) := by
  have e1 := PySem.StrLaws.replace_list (x := x) (y := Str.ofString "\\") (z := Str.ofString "\\\\") (by decide +kernel)
  have e2 := PySem.StrLaws.replace_list (x := Txt.replace x (Str.ofString "\\") (Str.ofString "\\\\")) (y := Str.ofString "\"") (z := Str.ofString "\\\"") (by decide +kernel)
  rw [show (Str.ofString "\\").cps.toList = [92] by decide +kernel, show (Str.ofString "\\\\").cps.toList = [92, 92] by decide +kernel, repl_one] at e1
  rw [show (Str.ofString "\"").cps.toList = [34] by decide +kernel, show (Str.ofString "\\\"").cps.toList = [92, 34] by decide +kernel, repl_one, e1] at e2
  show (Txt.replace (Txt.replace x (Str.ofString "\\") (Str.ofString "\\\\")) (Str.ofString "\"") (Str.ofString "\\\"")).cps.toList = esc x.cps.toList
  rw [e2, List.flatMap_assoc]
  unfold esc
  congr 1
  funext c
  unfold escC
  by_cases h : c = 92
  · subst h; decide
  · rw [if_neg h]
    by_cases h2 : c = 34
    · subst h2; decide
    · simp [h, h2]
theorem repl_len1 (x : Str) : (Txt.replace x (Str.ofString "\\") (Str.ofString "\\\\")).length ≤ 2 * x.length := by
  have e1 := PySem.StrLaws.replace_list (x := x) (y := Str.ofString "\\") (z := Str.ofString "\\\\") (by decide +kernel)
  rw [show (Str.ofString "\\").cps.toList = [92] by decide +kernel, show (Str.ofString "\\\\").cps.toList = [92, 92] by decide +kernel, repl_one] at e1
  rw [len_tl, show tl (Txt.replace x (Str.ofString "\\") (Str.ofString "\\\\")) = _ from e1, len_tl]
  show (List.flatMap _ (tl x)).length ≤ _
  induction tl x with
  | nil => exact Nat.zero_le _
  | cons c r ih =>
    rw [List.flatMap_cons, List.length_append, List.length_cons]
    have : (if c = 92 then [92, 92] else [c]).length ≤ 2 := by split <;> simp
    omega
theorem rendL_get : ∀ {rs : List Raw} {i : Nat} {r : Raw}, rs[i]? = some r → (rendL rs)[i]? = some (rend r)
  | [], i, r, e => by simp at e
  | q :: rs, i, r, e => by
    cases i with
    | zero => cases e; rfl
    | succ i => exact rendL_get (rs := rs) (i := i) (by simpa using e)
theorem rendL_length : ∀ rs : List Raw, (rendL rs).length = rs.length
  | [] => rfl
  | r :: rs => by
    show (rend r :: rendL rs).length = _
    rw [List.length_cons, List.length_cons, rendL_length rs]
theorem rendP_get : ∀ {rs : List Raw} {zs : List Str} {i : Nat} {r : Raw} {z : Str}, rs[i]? = some r → zs[i]? = some z → (rendP rs zs)[i]? = some (strL (tl z) ++ 58 :: rend r)
  | [], _, i, r, z, e, _ => by simp at e
  | q :: rs, [], i, r, z, _, e => by simp at e
  | q :: rs, y :: ys, i, r, z, e, e2 => by
    cases i with
    | zero => cases e; cases e2; rfl
    | succ i => exact rendP_get (rs := rs) (zs := ys) (i := i) (by simpa using e) (by simpa using e2)
theorem rendP_length : ∀ (rs : List Raw) (zs : List Str), (rendP rs zs).length = rs.length
  | [], _ => rfl
  | r :: rs, zs => by
    show (_ :: rendP rs zs.tail).length = _
    rw [List.length_cons, List.length_cons, rendP_length rs]
theorem nodes_pos (r : Raw) : 1 ≤ nodes r := by cases r <;> simp [nodes] <;> omega
theorem nodesL_ge : ∀ rs : List Raw, rs.length ≤ nodesL rs
  | [] => Nat.le_refl _
  | r :: rs => by
    have := nodes_pos r
    have := nodesL_ge rs
    show rs.length + 1 ≤ nodes r + nodesL rs
    omega
theorem nodes_get : ∀ {rs : List Raw} {i : Nat} {r : Raw}, rs[i]? = some r → nodes r ≤ nodesL rs
  | [], i, r, e => by simp at e
  | q :: rs, i, r, e => by
    cases i with
    | zero => cases e; show nodes q ≤ nodes q + nodesL rs; omega
    | succ i => have := nodes_get (rs := rs) (i := i) (by simpa using e); show nodes r ≤ nodes q + nodesL rs; omega
/-! ### tokens -/
mutual
def toks : Raw → List (List Nat)
  | .row rs => [91] :: (tokL rs ++ [[93]])
  | .tab zs rs => [123] :: (tokP rs zs ++ [[125]])
  | .non => [rend .non]
  | .bl b => [rend (.bl b)]
  | .int n => [rend (.int n)]
  | .str z => [rend (.str z)]
def tokL : List Raw → List (List Nat)
  | [] => []
  | r :: rs => toks r ++ tokL' rs
def tokL' : List Raw → List (List Nat)
  | [] => []
  | r :: rs => [44] :: (toks r ++ tokL' rs)
def tokP : List Raw → List Str → List (List Nat)
  | [], _ => []
  | r :: rs, zs => strL (tl (zs.headD Str.empty)) :: [58] :: (toks r ++ tokP' rs zs.tail)
def tokP' : List Raw → List Str → List (List Nat)
  | [], _ => []
  | r :: rs, zs => [44] :: strL (tl (zs.headD Str.empty)) :: [58] :: (toks r ++ tokP' rs zs.tail)
end
theorem joinL_cons (p : List Nat) : ∀ ls : List (List Nat), joinL [44] (p :: ls) = p ++ (ls.map (44 :: ·)).flatten
  | [] => by simp [joinL]
  | q :: r => by
    show p ++ ([44] ++ joinL [44] (q :: r)) = _
    rw [joinL_cons q r]
    simp
mutual
theorem toks_rend : ∀ r : Raw, (toks r).flatten = rend r
  | .non => by simp [toks]
  | .bl b => by simp [toks]
  | .int n => by simp [toks]
  | .str z => by simp [toks]
  | .row rs => by
    show ([91] :: (tokL rs ++ [[93]])).flatten = 91 :: (joinL [44] (rendL rs) ++ [93])
    rw [List.flatten_cons, List.flatten_append, tokL_rend rs]
    simp
  | .tab zs rs => by
    show ([123] :: (tokP rs zs ++ [[125]])).flatten = 123 :: (joinL [44] (rendP rs zs) ++ [125])
    rw [List.flatten_cons, List.flatten_append, tokP_rend rs zs]
    simp
theorem tokL_rend : ∀ rs : List Raw, (tokL rs).flatten = joinL [44] (rendL rs)
  | [] => rfl
  | r :: rs => by
    show (toks r ++ tokL' rs).flatten = joinL [44] (rend r :: rendL rs)
    rw [joinL_cons, List.flatten_append, toks_rend r, tokL'_rend rs]
theorem tokL'_rend : ∀ rs : List Raw, (tokL' rs).flatten = ((rendL rs).map (44 :: ·)).flatten
  | [] => rfl
  | r :: rs => by
    show ([44] :: (toks r ++ tokL' rs)).flatten = ((rend r :: rendL rs).map (44 :: ·)).flatten
    rw [List.flatten_cons, List.flatten_append, toks_rend r, tokL'_rend rs, List.map_cons, List.flatten_cons]
    simp
theorem tokP_rend : ∀ (rs : List Raw) (zs : List Str), (tokP rs zs).flatten = joinL [44] (rendP rs zs)
  | [], _ => rfl
  | r :: rs, zs => by
    show (strL (tl (zs.headD Str.empty)) :: [58] :: (toks r ++ tokP' rs zs.tail)).flatten = joinL [44] ((strL (tl (zs.headD Str.empty)) ++ 58 :: rend r) :: rendP rs zs.tail)
    rw [joinL_cons, List.flatten_cons, List.flatten_cons, List.flatten_append, toks_rend r, tokP'_rend rs zs.tail]
    simp
theorem tokP'_rend : ∀ (rs : List Raw) (zs : List Str), (tokP' rs zs).flatten = ((rendP rs zs).map (44 :: ·)).flatten
  | [], _ => rfl
  | r :: rs, zs => by
    show ([44] :: strL (tl (zs.headD Str.empty)) :: [58] :: (toks r ++ tokP' rs zs.tail)).flatten = (((strL (tl (zs.headD Str.empty)) ++ 58 :: rend r) :: rendP rs zs.tail).map (44 :: ·)).flatten
    rw [List.flatten_cons, List.flatten_cons, List.flatten_cons, List.flatten_append, toks_rend r, tokP'_rend rs zs.tail, List.map_cons, List.flatten_cons]
    simp
end
theorem toks_ne (r : Raw) : toks r ≠ [] := by cases r <;> simp [toks]
theorem tokL'_snoc : ∀ (rs : List Raw) (r : Raw), tokL' (rs ++ [r]) = tokL' rs ++ [44] :: toks r
  | [], r => by simp [tokL']
  | q :: rs, r => by
    show [44] :: (toks q ++ tokL' (rs ++ [r])) = ([44] :: (toks q ++ tokL' rs)) ++ [44] :: toks r
    rw [tokL'_snoc rs r]
    simp
theorem tokL_snoc (rs : List Raw) (r : Raw) : tokL (rs ++ [r]) = if rs = [] then toks r else tokL rs ++ [44] :: toks r := by
  cases rs with
  | nil => simp [tokL, tokL']
  | cons q rs =>
    rw [if_neg (by simp)]
    show toks q ++ tokL' (rs ++ [r]) = (toks q ++ tokL' rs) ++ [44] :: toks r
    rw [tokL'_snoc]
    simp
theorem tokL_ne {rs : List Raw} : tokL rs = [] ↔ rs = [] := by
  cases rs with
  | nil => simp [tokL]
  | cons q rs =>
    refine iff_of_false ?_ (by simp)
    show toks q ++ tokL' rs ≠ []
    intro h
    exact toks_ne q (List.append_eq_nil_iff.mp h).1
theorem tokP'_snoc : ∀ (rs : List Raw) (zs : List Str) (r : Raw) (z : Str), zs.length = rs.length → tokP' (rs ++ [r]) (zs ++ [z]) = tokP' rs zs ++ [44] :: strL (tl z) :: [58] :: toks r
  | [], [], r, z, _ => by simp [tokP']
  | q :: rs, y :: ys, r, z, h => by
    show [44] :: strL (tl y) :: [58] :: (toks q ++ tokP' (rs ++ [r]) (ys ++ [z])) = ([44] :: strL (tl y) :: [58] :: (toks q ++ tokP' rs ys)) ++ _
    rw [tokP'_snoc rs ys r z (by simpa using h)]
    simp
  | [], _ :: _, _, _, h => by simp at h
  | _ :: _, [], _, _, h => by simp at h
theorem tokP_snoc (rs : List Raw) (zs : List Str) (r : Raw) (z : Str) (h : zs.length = rs.length) : tokP (rs ++ [r]) (zs ++ [z]) = if rs = [] then strL (tl z) :: [58] :: toks r else tokP rs zs ++ [44] :: strL (tl z) :: [58] :: toks r := by
  cases rs with
  | nil =>
    cases zs with
    | nil => simp [tokP, tokP']
    | cons y ys => simp at h
  | cons q rs =>
    cases zs with
    | nil => simp at h
    | cons y ys =>
      rw [if_neg (by simp)]
      show strL (tl y) :: [58] :: (toks q ++ tokP' (rs ++ [r]) (ys ++ [z])) = (strL (tl y) :: [58] :: (toks q ++ tokP' rs ys)) ++ _
      rw [tokP'_snoc rs ys r z (by simpa using h)]
      simp
theorem tokP_ne {rs : List Raw} {zs : List Str} : tokP rs zs = [] ↔ rs = [] := by
  cases rs with
  | nil => simp [tokP]
  | cons q rs => exact iff_of_false (by simp [tokP]) (by simp)
mutual
theorem toks_len : ∀ r : Raw, (toks r).length ≤ 6 * nodes r - 3
  | .non => by decide
  | .bl b => by simp [toks, nodes]
  | .int n => by simp [toks, nodes]
  | .str z => by simp [toks, nodes]
  | .row rs => by
    have := tokL_len rs
    show ([91] :: (tokL rs ++ [[93]])).length ≤ 6 * (1 + nodesL rs) - 3
    simp only [List.length_cons, List.length_append, List.length_nil]
    omega
  | .tab zs rs => by
    have := tokP_len rs zs
    show ([123] :: (tokP rs zs ++ [[125]])).length ≤ 6 * (1 + nodesL rs) - 3
    simp only [List.length_cons, List.length_append, List.length_nil]
    omega
theorem tokL_len : ∀ rs : List Raw, (tokL rs).length ≤ 6 * nodesL rs
  | [] => Nat.le_refl _
  | r :: rs => by
    have h1 := toks_len r
    have h2 := tokL'_len rs
    have := nodes_pos r
    show (toks r ++ tokL' rs).length ≤ 6 * (nodes r + nodesL rs)
    rw [List.length_append]
    omega
theorem tokL'_len : ∀ rs : List Raw, (tokL' rs).length ≤ 6 * nodesL rs
  | [] => Nat.le_refl _
  | r :: rs => by
    have h1 := toks_len r
    have h2 := tokL'_len rs
    have := nodes_pos r
    show ([44] :: (toks r ++ tokL' rs)).length ≤ 6 * (nodes r + nodesL rs)
    rw [List.length_cons, List.length_append]
    omega
theorem tokP_len : ∀ (rs : List Raw) (zs : List Str), (tokP rs zs).length ≤ 6 * nodesL rs
  | [], _ => Nat.le_refl _
  | r :: rs, zs => by
    have h1 := toks_len r
    have h2 := tokP'_len rs zs.tail
    have := nodes_pos r
    show (strL (tl (zs.headD Str.empty)) :: [58] :: (toks r ++ tokP' rs zs.tail)).length ≤ 6 * (nodes r + nodesL rs)
    simp only [List.length_cons, List.length_append]
    omega
theorem tokP'_len : ∀ (rs : List Raw) (zs : List Str), (tokP' rs zs).length ≤ 6 * nodesL rs
  | [], _ => Nat.le_refl _
  | r :: rs, zs => by
    have h1 := toks_len r
    have h2 := tokP'_len rs zs.tail
    have := nodes_pos r
    show ([44] :: strL (tl (zs.headD Str.empty)) :: [58] :: (toks r ++ tokP' rs zs.tail)).length ≤ 6 * (nodes r + nodesL rs)
    simp only [List.length_cons, List.length_append]
    omega
end
theorem pr_strL {z w : Str} (h : Pr z) (e : tl w = strL (tl z)) : Pr w := fun c hc => by
  rw [e] at hc
  unfold strL at hc
  rcases List.mem_cons.mp hc with hc | hc
  · omega
  rcases List.mem_append.mp hc with hc | hc
  · obtain ⟨d, hd, hc⟩ := List.mem_flatMap.mp hc
    have := h d hd
    unfold escC at hc
    split at hc
    · simp at hc; omega
    · simp at hc; omega
  · have := List.mem_singleton.mp hc
    omega
theorem nodesL_take : ∀ (rs : List Raw) (i : Nat), nodesL (rs.take i) ≤ nodesL rs
  | [], i => by simp
  | r :: rs, 0 => Nat.zero_le _
  | r :: rs, i + 1 => by
    have := nodesL_take rs i
    show nodes r + nodesL (rs.take i) ≤ nodes r + nodesL rs
    omega
end KB
namespace KB
open PySem PySem.Spec PyProof.Rows L2 TL
/-! ### the class Table as the top has made it -/
structure TabC (K : PySem.W.Frag) (mg : Str → Option Value) (C : Addr) : Prop where
  cl : Cls K C
  nH : NoAttr K C "held"
  mgC : mg "Table" = some (.ref C)
  kC : PySem.W.keepIn K (.ref C) = true
  mak : PySem.W.makesIn K C = true
  ha : PySem.W.findIn K (.ref C) "__class__" = some (some (.builtin "object.__class__"))
  hn : PySem.W.specialIn K (.builtin "object.__class__") "__get__" = some (some (.builtin "getset_descriptor.__get__"))
  ht : PySem.W.takesIn K (.builtin "object.__class__") = some true
  hm : PySem.W.mroIn K C (.type "object") = some true
  own : PySem.W.kitOne K (.ref C) (.ref C) = some true
  c_non : PySem.W.kitOne K (.type "NoneType") (.ref C) = some false
  c_bool : PySem.W.kitOne K (.type "bool") (.ref C) = some false
  c_int : PySem.W.kitOne K (.type "int") (.ref C) = some false
  c_str : PySem.W.kitOne K (.type "str") (.ref C) = some false
  c_list : PySem.W.kitOne K (.type "list") (.ref C) = some false
  c_tuple : PySem.W.kitOne K (.type "tuple") (.ref C) = some false
  c_dict : PySem.W.kitOne K (.type "dict") (.ref C) = some false
  t_int : PySem.W.kitOne K (.ref C) (.type "int") = some false
  t_bool : PySem.W.kitOne K (.ref C) (.type "bool") = some false
  t_str : PySem.W.kitOne K (.ref C) (.type "str") = some false
  t_list : PySem.W.kitOne K (.ref C) (.type "list") = some false
  t_tuple : PySem.W.kitOne K (.ref C) (.type "tuple") = some false
theorem TabC.non {K : PySem.W.Frag} {mg : Str → Option Value} {C : Addr} (T : TabC K mg C) {H : Hp} {x : V} {n : String} (h : TyN H x n) : PySem.W.kitOne K (.type n) (.ref C) = some false := by
  unfold TyN at h
  split at h
  · subst h; exact T.c_non
  · subst h; exact T.c_bool
  · subst h; exact T.c_int
  · subst h; exact T.c_str
  · rcases h with ⟨_, _, rfl⟩ | ⟨_, _, rfl⟩ | ⟨_, _, rfl⟩
    · exact T.c_list
    · exact T.c_tuple
    · exact T.c_dict
  · exact h.elim
theorem TyN.one {H : Hp} {x : V} {m n : String} (h : TyN H x m) (g : TyN H x n) : m = n := by
  unfold TyN at h g
  split at h
  · subst h; subst g; rfl
  · subst h; subst g; rfl
  · subst h; subst g; rfl
  · subst h; subst g; rfl
  · rcases h with ⟨_, e, rfl⟩ | ⟨_, e, rfl⟩ | ⟨_, e, rfl⟩ <;> rcases g with ⟨_, e', rfl⟩ | ⟨_, e', rfl⟩ | ⟨_, e', rfl⟩ <;> first | rfl | (rw [e] at e'; cases e')
  · exact h.elim
theorem noTy {H : Hp} {a C dx : Addr} {fs : List (Str × V)} {n : String} (h : H a = some (.ins C dx fs)) (g : TyN H (.ref a) n) : False := by
  rcases (show (∃ xs, H a = some (.lst xs) ∧ n = "list") ∨ (∃ xs, H a = some (.tup xs) ∧ n = "tuple") ∨ ∃ kvs, H a = some (.dK kvs) ∧ n = "dict" from g) with ⟨_, e, _⟩ | ⟨_, e, _⟩ | ⟨_, e, _⟩ <;> (rw [h] at e; cases e)
def isBT (T : String) : Bool := T == "int" || T == "bool" || T == "str" || T == "list" || T == "tuple"
theorem isBT_mem {T : String} (h : isBT T = true) : T = "int" ∨ T = "bool" ∨ T = "str" ∨ T = "list" ∨ T = "tuple" := by
  unfold isBT at h
  simp only [Bool.or_eq_true, beq_iff_eq] at h
  rcases h with (((h | h) | h) | h) | h <;> simp [h]
/-- what isinstance says of a value and a class: a built-in one or Table -/
inductive IsT (C : Addr) (H : Hp) : V → V → Bool → Prop where
  | ty {x : V} {n T : String} {b : Bool} (h : TyN H x n) (k : kitB n T = some b) : IsT C H x (.ty T) b
  | tab {a dx : Addr} {fs : List (Str × V)} {T : String} (h : H a = some (.ins C dx fs)) (k : isBT T = true) : IsT C H (.ref a) (.ty T) false
  | no {x : V} {n : String} (h : TyN H x n) : IsT C H x (.ref C) false
  | own {a dx : Addr} {fs : List (Str × V)} (h : H a = some (.ins C dx fs)) : IsT C H (.ref a) (.ref C) true
theorem IsT.rule {K : PySem.W.Frag} {mg : Str → Option Value} {C : Addr} (T : TabC K mg C) {H : Hp} {x c : V} {b : Bool} (h : IsT C H x c b) : ∃ t u, ClsV c u ∧ TyX K H x t ∧ PySem.W.kitOne K t u = some b := by
  cases h with
  | ty h k => exact ⟨_, _, .ty _, h.ty, kit_ty k⟩
  | tab h k =>
    refine ⟨_, _, .ty _, .base (.ins h T.cl T.ha T.hn T.ht T.hm), ?_⟩
    rcases isBT_mem k with rfl | rfl | rfl | rfl | rfl
    · exact T.t_int
    · exact T.t_bool
    · exact T.t_str
    · exact T.t_list
    · exact T.t_tuple
  | no h => exact ⟨_, _, .own C, h.ty, T.non h⟩
  | own h => exact ⟨_, _, .own C, .base (.ins h T.cl T.ha T.hn T.ht T.hm), T.own⟩
def rIsT (C : Addr) : List V → Hp → VK → Prop := fun vs H Q => ∃ x c b, vs = [x, c] ∧ IsT C H x c b ∧ Q (.bl b) H
def rIsT2 (C : Addr) : List V → Hp → VK → Prop := fun vs H Q => ∃ x p c d b e, vs = [x, .ref p] ∧ H p = some (.tup [c, d]) ∧ IsT C H x c b ∧ IsT C H x d e ∧ Q (.bl (b || e)) H
section
variable {X : Cx} {C : Addr}
theorem tyx_one {K : PySem.W.Frag} {H : Hp} {x : V} {C : Addr} {mg : Str → Option Value} (T : TabC K mg C) {c d : V} {b e : Bool} (h : IsT C H x c b) (h' : IsT C H x d e) : ∃ t u w, ClsV c u ∧ ClsV d w ∧ TyX K H x t ∧ PySem.W.kitOne K t u = some b ∧ PySem.W.kitOne K t w = some e := by
  have key : ∀ {c : V} {b : Bool}, IsT C H x c b → (∀ n, TyN H x n → ∃ u, ClsV c u ∧ PySem.W.kitOne K (.type n) u = some b) := fun {c b} g n hn => by
    clear h h'
    cases g with
    | ty g1 k =>
      have e : n = _ := TyN.one hn g1
      subst e
      exact ⟨_, .ty _, kit_ty k⟩
    | tab g1 k => exact (noTy g1 hn).elim
    | no g1 => exact ⟨_, .own C, T.non hn⟩
    | own g1 => exact (noTy g1 hn).elim
  have key2 : ∀ {c : V} {b : Bool}, IsT C H x c b → (∀ a dx fs, x = .ref a → H a = some (.ins C dx fs) → ∃ u, ClsV c u ∧ PySem.W.kitOne K (.ref C) u = some b) := fun {c b} g a dx fs ex ha => by
    clear h h'
    subst ex
    cases g with
    | ty g1 k => exact (noTy ha g1).elim
    | tab g1 k =>
      rcases isBT_mem k with rfl | rfl | rfl | rfl | rfl
      · exact ⟨_, .ty _, T.t_int⟩
      · exact ⟨_, .ty _, T.t_bool⟩
      · exact ⟨_, .ty _, T.t_str⟩
      · exact ⟨_, .ty _, T.t_list⟩
      · exact ⟨_, .ty _, T.t_tuple⟩
    | no g1 => exact (noTy ha g1).elim
    | own g1 => exact ⟨_, .own C, T.own⟩
  cases h with
  | ty h k =>
    obtain ⟨w, cw, kw⟩ := key h' _ h
    exact ⟨_, _, w, .ty _, cw, h.ty, kit_ty k, kw⟩
  | tab h k =>
    obtain ⟨u, cu, ku⟩ := key2 (IsT.tab (C := C) h k) _ _ _ rfl h
    obtain ⟨w, cw, kw⟩ := key2 h' _ _ _ rfl h
    exact ⟨_, u, w, cu, cw, .base (.ins h T.cl T.ha T.hn T.ht T.hm), ku, kw⟩
  | no h =>
    obtain ⟨w, cw, kw⟩ := key h' _ h
    exact ⟨_, _, w, .own C, cw, h.ty, T.non h, kw⟩
  | own h =>
    obtain ⟨w, cw, kw⟩ := key2 h' _ _ _ rfl h
    exact ⟨_, _, w, .own C, cw, .base (.ins h T.cl T.ha T.hn T.ht T.hm), T.own, kw⟩
theorem isi_T (T : TabC X.K X.mg C) : CallR X (.builtin "isinstance") (rIsT C) := CallR.wk call_isi fun vs H Q h => by
  obtain ⟨x, c, b, rfl, h, q⟩ := h
  obtain ⟨t, u, cv, ty, k⟩ := h.rule T
  exact ⟨x, c, t, u, b, rfl, cv, ty, k, q⟩
theorem isi_T2 (T : TabC X.K X.mg C) : CallR X (.builtin "isinstance") (rIsT2 C) := CallR.wk call_isiT fun vs H Q h => by
  obtain ⟨x, p, c, d, b, e, rfl, hp, h, h', q⟩ := h
  obtain ⟨t, u, w, cu, cw, ty, ku, kw⟩ := tyx_one T h h'
  refine ⟨x, p, [c, d], t, [u, w], b || e, rfl, hp, .cons cu (.cons cw .nil), ty, ?_, q⟩
  refine kitAny_cons ku (fun hb => ?_) (fun hb => by rw [hb]; rfl)
  rw [hb, Bool.false_or]
  exact kitAny_cons kw (fun he => by rw [he]; exact kitAny_nil) (fun he => he)
theorem pe_tabC {pos : Pos} (T : TabC X.K X.mg C) (hg : Gl X "Table") : PE X (.Name "Table" pos) (tC (.ref C)) := pe_glob hg T.mgC rfl (by decide)
end
/-! ### the readings -/
section
variable {C a D : Addr} {H : Hp} {Q : VK} {T : String} {b : Bool} {x c : V}
theorem r_isT : rIsT C [x, c] H Q = ∃ b, IsT C H x c b ∧ Q (.bl b) H := by
  apply propext
  constructor
  · rintro ⟨y, d, b, e, h⟩; cases e; exact ⟨b, h⟩
  · rintro ⟨b, h⟩; exact ⟨x, c, b, rfl, h⟩
theorem r_isT2 {p : Addr} : rIsT2 C [x, .ref p] H Q = ∃ c d, H p = some (.tup [c, d]) ∧ ∃ b, IsT C H x c b ∧ ∃ e, IsT C H x d e ∧ Q (.bl (b || e)) H := by
  apply propext
  constructor
  · rintro ⟨y, p', c, d, b, e, z, h1, h2, h3, q⟩; cases z; exact ⟨c, d, h1, b, h2, e, h3, q⟩
  · rintro ⟨c, d, h1, b, h2, e, h3, q⟩; exact ⟨x, p, c, d, b, e, rfl, h1, h2, h3, q⟩
theorem isT_flat {n : String} (hx : ∀ m, TyN H x m ↔ m = n) (hr : ∀ a, x ≠ .ref a) : IsT C H x (.ty T) b = (kitB n T = some b) := by
  apply propext
  constructor
  · intro h
    cases h with
    | ty h k => cases (hx _).mp h; exact k
    | tab h k => exact absurd rfl (hr _)
  · exact fun h => .ty ((hx n).mpr rfl) h
theorem isT_flatC {n : String} (hx : ∀ m, TyN H x m ↔ m = n) (hr : ∀ a, x ≠ .ref a) : IsT C H x (.ref D) b = (D = C ∧ b = false) := by
  apply propext
  constructor
  · intro h
    cases h with
    | no h => exact ⟨rfl, rfl⟩
    | own h => exact absurd rfl (hr _)
  · rintro ⟨rfl, rfl⟩
    exact .no ((hx n).mpr rfl)
theorem isT_non : IsT C H .non (.ty T) b = (kitB "NoneType" T = some b) := isT_flat (fun _ => Iff.rfl) (fun _ z => nomatch z)
theorem isT_bl {k : Bool} : IsT C H (.bl k) (.ty T) b = (kitB "bool" T = some b) := isT_flat (fun _ => Iff.rfl) (fun _ z => nomatch z)
theorem isT_int {i : Int} : IsT C H (.int i) (.ty T) b = (kitB "int" T = some b) := isT_flat (fun _ => Iff.rfl) (fun _ z => nomatch z)
theorem isT_str {z : Str} : IsT C H (.str z) (.ty T) b = (kitB "str" T = some b) := isT_flat (fun _ => Iff.rfl) (fun _ z => nomatch z)
theorem isC_non : IsT C H .non (.ref D) b = (D = C ∧ b = false) := isT_flatC (n := "NoneType") (fun _ => Iff.rfl) (fun _ z => nomatch z)
theorem isC_bl {k : Bool} : IsT C H (.bl k) (.ref D) b = (D = C ∧ b = false) := isT_flatC (n := "bool") (fun _ => Iff.rfl) (fun _ z => nomatch z)
theorem isC_int {i : Int} : IsT C H (.int i) (.ref D) b = (D = C ∧ b = false) := isT_flatC (n := "int") (fun _ => Iff.rfl) (fun _ z => nomatch z)
theorem isC_str {z : Str} : IsT C H (.str z) (.ref D) b = (D = C ∧ b = false) := isT_flatC (n := "str") (fun _ => Iff.rfl) (fun _ z => nomatch z)
theorem isT_ref : IsT C H (.ref a) (.ty T) b = ((∃ xs, H a = some (.lst xs) ∧ kitB "list" T = some b) ∨ (∃ xs, H a = some (.tup xs) ∧ kitB "tuple" T = some b) ∨ (∃ xs, H a = some (.dK xs) ∧ kitB "dict" T = some b) ∨ ∃ dx fs, H a = some (.ins C dx fs) ∧ isBT T = true ∧ b = false) := by
  apply propext
  constructor
  · intro h
    cases h with
    | ty h k =>
      rcases (show (∃ xs, H a = some (.lst xs) ∧ _ = "list") ∨ (∃ xs, H a = some (.tup xs) ∧ _ = "tuple") ∨ ∃ kvs, H a = some (.dK kvs) ∧ _ = "dict" from h) with ⟨xs, e, rfl⟩ | ⟨xs, e, rfl⟩ | ⟨xs, e, rfl⟩
      · exact .inl ⟨xs, e, k⟩
      · exact .inr (.inl ⟨xs, e, k⟩)
      · exact .inr (.inr (.inl ⟨xs, e, k⟩))
    | tab h k => exact .inr (.inr (.inr ⟨_, _, h, k, rfl⟩))
  · rintro (⟨xs, e, k⟩ | ⟨xs, e, k⟩ | ⟨xs, e, k⟩ | ⟨dx, fs, e, k, rfl⟩)
    · exact .ty (.inl ⟨xs, e, rfl⟩) k
    · exact .ty (.inr (.inl ⟨xs, e, rfl⟩)) k
    · exact .ty (.inr (.inr ⟨xs, e, rfl⟩)) k
    · exact .tab e k
theorem isC_ref : IsT C H (.ref a) (.ref D) b = (D = C ∧ ((∃ xs, H a = some (.lst xs) ∧ b = false) ∨ (∃ xs, H a = some (.tup xs) ∧ b = false) ∨ (∃ xs, H a = some (.dK xs) ∧ b = false) ∨ ∃ dx fs, H a = some (.ins C dx fs) ∧ b = true)) := by
  apply propext
  constructor
  · intro h
    cases h with
    | no h =>
      refine ⟨rfl, ?_⟩
      rcases (show (∃ xs, H a = some (.lst xs) ∧ _ = "list") ∨ (∃ xs, H a = some (.tup xs) ∧ _ = "tuple") ∨ ∃ kvs, H a = some (.dK kvs) ∧ _ = "dict" from h) with ⟨xs, e, _⟩ | ⟨xs, e, _⟩ | ⟨xs, e, _⟩
      · exact .inl ⟨xs, e, rfl⟩
      · exact .inr (.inl ⟨xs, e, rfl⟩)
      · exact .inr (.inr (.inl ⟨xs, e, rfl⟩))
    | own h => exact ⟨rfl, .inr (.inr (.inr ⟨_, _, h, rfl⟩))⟩
  · rintro ⟨rfl, ⟨xs, e, rfl⟩ | ⟨xs, e, rfl⟩ | ⟨xs, e, rfl⟩ | ⟨dx, fs, e, rfl⟩⟩
    · exact .no (n := "list") (.inl ⟨xs, e, rfl⟩)
    · exact .no (n := "tuple") (.inr (.inl ⟨xs, e, rfl⟩))
    · exact .no (n := "dict") (.inr (.inr ⟨xs, e, rfl⟩))
    · exact .own e
theorem bt_int : (isBT "int" = true) = True := eq_true (by decide)
theorem bt_bool : (isBT "bool" = true) = True := eq_true (by decide)
theorem bt_str : (isBT "str" = true) = True := eq_true (by decide)
theorem bt_list : (isBT "list" = true) = True := eq_true (by decide)
theorem bt_tuple : (isBT "tuple" = true) = True := eq_true (by decide)
end
end KB
namespace KB
open PySem PySem.Spec PyProof.Rows L2 TL
/-! ### values of the program -/
inductive Val where
  | non
  | bl (b : Bool)
  | int (n : Int)
  | str (z : Str)
  | lst (vs : List Val)
  | tup (vs : List Val)
  | tab (ks : List Key) (vs : List Val)
mutual
def RpV (C : Addr) (H : Hp) : Val → V → Prop
  | .non, v => v = .non
  | .bl b, v => v = .bl b
  | .int n, v => v = .int n
  | .str z, v => v = .str z
  | .lst vs, v => ∃ a ws, v = .ref a ∧ H a = some (.lst ws) ∧ RpVL C H vs ws
  | .tup vs, v => ∃ a ws, v = .ref a ∧ H a = some (.tup ws) ∧ RpVL C H vs ws
  | .tab ks vs, v => ∃ a dx d ws, v = .ref a ∧ H a = some (.ins C dx [("held", .ref d)]) ∧ H d = some (.dK (ks.zip ws)) ∧ ks.Nodup ∧ ks.length = vs.length ∧ RpVL C H vs ws
def RpVL (C : Addr) (H : Hp) : List Val → List V → Prop
  | [], ws => ws = []
  | v :: vs, ws => ∃ w us, ws = w :: us ∧ RpV C H v w ∧ RpVL C H vs us
end
section
variable {C : Addr} {H H' : Hp}
mutual
theorem RpV.mono (s : Same H H') : ∀ (x : Val) (v : V), RpV C H x v → RpV C H' x v
  | .non, _, h => h
  | .bl _, _, h => h
  | .int _, _, h => h
  | .str _, _, h => h
  | .lst vs, v, h => by
    obtain ⟨a, ws, e, h1, h2⟩ := h
    exact ⟨a, ws, e, s _ _ h1, RpVL.mono s vs ws h2⟩
  | .tup vs, v, h => by
    obtain ⟨a, ws, e, h1, h2⟩ := h
    exact ⟨a, ws, e, s _ _ h1, RpVL.mono s vs ws h2⟩
  | .tab ks vs, v, h => by
    obtain ⟨a, dx, d, ws, e, h1, h2, h3, h4, h5⟩ := h
    exact ⟨a, dx, d, ws, e, s _ _ h1, s _ _ h2, h3, h4, RpVL.mono s vs ws h5⟩
theorem RpVL.mono (s : Same H H') : ∀ (vs : List Val) (ws : List V), RpVL C H vs ws → RpVL C H' vs ws
  | [], _, h => h
  | v :: vs, _, h => by
    obtain ⟨w, us, e, h1, h2⟩ := h
    exact ⟨w, us, e, RpV.mono s v w h1, RpVL.mono s vs us h2⟩
end
theorem RpVL.len : ∀ {vs : List Val} {ws : List V}, RpVL C H vs ws → ws.length = vs.length
  | [], _, h => by cases h; rfl
  | v :: vs, _, h => by
    obtain ⟨w, us, rfl, h1, h2⟩ := h
    rw [List.length_cons, List.length_cons, h2.len]
theorem RpVL.snoc : ∀ {vs : List Val} {ws : List V} {v : Val} {w : V}, RpVL C H vs ws → RpV C H v w → RpVL C H (vs ++ [v]) (ws ++ [w])
  | [], _, v, w, h, h1 => by cases h; exact ⟨w, [], rfl, h1, rfl⟩
  | x :: vs, _, v, w, h, h1 => by
    obtain ⟨y, us, rfl, h2, h3⟩ := h
    exact ⟨y, us ++ [w], rfl, h2, h3.snoc h1⟩
theorem RpVL.get : ∀ {vs : List Val} {ws : List V} {i : Nat} {w : V}, RpVL C H vs ws → ws[i]? = some w → ∃ v, vs[i]? = some v ∧ RpV C H v w
  | [], _, i, w, h, e => by cases h; simp at e
  | x :: vs, _, i, w, h, e => by
    obtain ⟨y, us, rfl, h2, h3⟩ := h
    cases i with
    | zero => cases e; exact ⟨x, rfl, h2⟩
    | succ i => exact RpVL.get (i := i) h3 (by simpa using e)
end
mutual
def vparts : Val → Nat
  | .lst vs => 1 + vpartsL vs
  | .tup vs => 1 + vpartsL vs
  | .tab _ vs => 1 + vpartsL vs
  | _ => 1
def vpartsL : List Val → Nat
  | [] => 0
  | v :: vs => vparts v + vpartsL vs
end
mutual
def vdepth : Val → Nat
  | .lst vs => 1 + vdepthL vs
  | .tup vs => 1 + vdepthL vs
  | .tab _ vs => 1 + vdepthL vs
  | _ => 0
def vdepthL : List Val → Nat
  | [] => 0
  | v :: vs => max (vdepth v) (vdepthL vs)
end
theorem vdepth_get : ∀ {vs : List Val} {i : Nat} {v : Val}, vs[i]? = some v → vdepth v ≤ vdepthL vs
  | [], i, r, e => by simp at e
  | q :: rs, i, r, e => by
    cases i with
    | zero => cases e; simp only [vdepthL]; omega
    | succ i => have := vdepth_get (vs := rs) (i := i) (by simpa using e); simp only [vdepthL]; omega
theorem vparts_pos (v : Val) : 1 ≤ vparts v := by cases v <;> simp [vparts] <;> omega
theorem vpartsL_ge : ∀ vs : List Val, vs.length ≤ vpartsL vs
  | [] => Nat.le_refl _
  | r :: rs => by
    have := vparts_pos r
    have := vpartsL_ge rs
    show rs.length + 1 ≤ vparts r + vpartsL rs
    omega
theorem vparts_get : ∀ {vs : List Val} {i : Nat} {v : Val}, vs[i]? = some v → vparts v ≤ vpartsL vs
  | [], i, r, e => by simp at e
  | q :: rs, i, r, e => by
    cases i with
    | zero => cases e; show vparts q ≤ vparts q + vpartsL rs; omega
    | succ i => have := vparts_get (vs := rs) (i := i) (by simpa using e); show vparts r ≤ vparts q + vpartsL rs; omega
/-! ### a part of the heap, and what is new -/
def plus (G N : Hp) : Hp := fun b => match G b with
  | some o => some o
  | none => N b
theorem plus_l {G N : Hp} : Same G (plus G N) := fun b o h => by unfold plus; rw [h]
/-- what a call made or found is in the part around -/
theorem plus_same {G H H' R : Hp} (g : Same G R) (n : Same (new H H') R) : Same (plus G (new H H')) R := fun b o h => by
  unfold plus at h
  split at h
  · rename_i x e; cases h; exact g b _ e
  · exact n b o h
theorem plus_mono {G H H1 H2 : Hp} (s : Same H1 H2) : Same (plus G (new H H1)) (plus G (new H H2)) := fun b o h => by
  unfold plus at h ⊢
  split at h
  · exact h
  · unfold new at h ⊢
    split at h
    · cases h
    · rename_i n; rw [if_neg n]; exact s b o h
theorem new_hid' {H H2 H' : Hp} {d : Addr} {u : HO} (s : Same H H2) (hd : H2 d = some u) : Same (new H2 H') (hid (new H H') d) := sm_made s hd
theorem lk_held {v : V} : List.lookup (Str.ofString "held") [(Str.ofString "held", v)] = some v := by
  rw [List.lookup_cons, show (Str.ofString "held" == Str.ofString "held") = true by decide +kernel]
section
variable {σ : L2.St} {H : Hp} {Q : VK} {D : L2.Ends} {K : PySem.W.Frag}
theorem q_fld {ta : TE} {f : Str} : tFld K ta f σ H Q = ta σ H fun x H1 => ∃ a C dx fs v, x = .ref a ∧ H1 a = some (.ins C dx fs) ∧ Cls K C ∧ NoAttr K C f ∧ fs.lookup f = some v ∧ Q v H1 := propext Iff.rfl
theorem cx_K {CX : CXT} {P : Program} {w : World} {mg : Str → Option Value} {base : Heap} {N : List Str} {q : Str} {sc : Scope} {f : Addr} {cd : Value} {A : Around} {outer : List Env} {s : Shared} {E : XK} : (cxOf CX P w K mg base N q sc f cd A outer s H E).K = K := rfl
end
/-! ### a class called, a method called -/
structure NewC (P : Program) (w : World) (K : PySem.W.Frag) (mg : Str → Option Value) (base : Heap) (k : Nat) (x : Str) (C : Addr) (sp : Sp) : Prop where
  ex : ∃ (f : Addr) (fd : FuncData) (ps : List Str) (spI : Sp), Mk K C f ∧ mg x = some (.ref C) ∧ Binds K fd ps [] ∧ FnOk P w K mg base CX0 k f fd ps spI ∧
    ∀ vs H Q, sp vs H Q E0 → ∀ a dx, H a = none → H dx = none → dx ≠ a → spI (.ref a :: vs) (upd (upd H dx (.own a)) a (.ins C dx [])) (fun v H2 => v = .non ∧ Q (.ref a) H2) E0
/-- a method by its class -/
structure MthC (P : Program) (w : World) (K : PySem.W.Frag) (mg : Str → Option Value) (base : Heap) (k : Nat) (C : Addr) (m : Str) (ps : List Str) (sp : Sp) : Prop where
  ex : ∃ (f : Addr) (fd : FuncData), Meth K C m f ∧ Binds K fd ps [] ∧ FnOk P w K mg base CX0 k f fd ps sp
/-- a def of a class, as the top has made it (defaults: dvs) -/
structure DefM (K : PySem.W.Frag) (C : Addr) (m qual : Str) (st : Stmt) (dvs : List V) : Prop where
  ex : ∃ (f : Addr) (fd : FuncData), FunD K m qual (defArgs st) (defBody st) (defScope st) dvs [] f fd ∧ PySem.W.findIn K (.ref C) m = some (some (.ref f)) ∧ PySem.W.isFn K (.ref f) = true
section
variable {X : Cx} {k : Nat} {x : Str} {C : Addr} {sp : Sp} {p pos : Pos} {e : Expr} {es : List Expr} {t : TA}
theorem PE.wk {e : Expr} {t t' : TE} (h : PE X e t) (w : ∀ σ H Q, t' σ H Q → t σ H Q) : PE X e t' := ⟨fun pins s σ H Q I q => h.run pins s σ H Q I (w _ _ _ q)⟩
theorem pe_new (N : NewC X.prog X.w X.K X.mg X.base k x C sp) (hr : Room (k + 1) X.A) (hg : Gl X x) (ha : PA X (e :: es) t) (hdb : (x == ("__debug__" : Str)) = false := by decide)
    (he : starEach (e :: es) X.env = (false, eval e X.env) :: starEach es X.env := by rfl) (hpl : (backTo pos (starEach es X.env)).any (·.1) = false := by rfl) : PE X (.Call (.Name x p) (e :: es) [] pos) (tCall sp [] E0 t) := by
  obtain ⟨f, fd, ps, spI, M, g, b, F, w⟩ := N.ex
  refine ⟨fun pins s σ H Q I h => ?_⟩
  refine wpAny_Call_Name_kw (ld_glob I hg g ?_ hdb)
  refine PySem.W.callWith_K (h₀ := X.base) I.ok.mod.kin M.kp (thn (ha.run pos pins s σ H _ I h) fun us s1 ⟨vs, H1, I1, r, q⟩ => ⟨I1.kIn, ?_⟩) he hpl
  exact run_make (dvs := []) (ds := []) M F hr b .nil pass0 I1 r fun a dx h1 h2 h3 => w _ _ _ q a dx h1 h2 h3
theorem pe_mth {m : Str} {ps : List Str} {o : Expr} {to : TE} {apos : Pos} (N : MthC X.prog X.w X.K X.mg X.base k C m ps sp) (cl : Cls X.K C) (hr : Room k X.A) (ho : PE X o to) (ha : PA X (e :: es) t)
    (h1 : ∀ (f : Addr) (fd : FuncData), Meth X.K C m f → Binds X.K fd ps [] → FnOk X.prog X.w X.K X.mg X.base CX0 k f fd ps sp → PE X (.Call (.Attribute o m apos) (e :: es) [] pos) (tMeth C m sp [] E0 to t)) : PE X (.Call (.Attribute o m apos) (e :: es) [] pos) (tMeth C m sp [] E0 to t) := by
  obtain ⟨f, fd, M, b, F⟩ := N.ex
  exact h1 f fd M b F
end
/-! ### for over a list or a tuple -/
def iSeq (K : PySem.W.Frag) (tl : TE) : TI := fun σ H R => tl σ H fun x H1 => ∃ a, x = .ref a ∧ (((∃ xs, SqL K H1 a xs) ∧ R (Itl K a) H1) ∨ ((∃ xs, SqT K H1 a xs) ∧ R (Itt K a) H1))
section
variable {X : Cx} {tg : Expr}
theorem pi_seq {l : Expr} {tl : TE} (hl : PE X l tl) : PI X tg l (iSeq X.K tl) := by
  refine ⟨fun pins s σ H R I h => ?_⟩
  refine thn (hl.run pins s σ H _ I h) fun v s1 ⟨x, H1, I1, r1, q1⟩ => ?_
  obtain ⟨a, e, ⟨⟨xs, hq⟩, q⟩ | ⟨⟨xs, hq⟩, q⟩⟩ := q1
  · subst e
    cases r1
    obtain ⟨its, rv, p, hz⟩ := I1.list hq
    refine wpAny_pyIter_list p.isList ?_
    refine ⟨s1.heap.objs.size, [s1.heap.objs.size], _, _, H1, rfl, I1.kept (t' := s1.toks) fun b o e => Heap.get?_push_of_some _ e, turn_list a _, ⟨_, Heap.get?_push_size _ rfl, rfl, rfl⟩, fun b hb => ?_, q⟩
    have e : b = s1.heap.objs.size := by simpa using hb
    subst e
    exact I1.fpOk (Nat.le_refl _) (I1.hok.fresh (Nat.le_refl _))
  · subst e
    cases r1
    obtain ⟨its, rv, p, hz⟩ := I1.tuple hq
    refine wpAny_pyIter_tuple (show s1.heap.IsTuple a its.toArray from p) ?_
    refine ⟨s1.heap.objs.size, [s1.heap.objs.size], _, _, H1, rfl, I1.kept (t' := s1.toks) fun b o e => Heap.get?_push_of_some _ e, turn_tuple a _, ⟨_, Heap.get?_push_size _ rfl, rfl, rfl⟩, fun b hb => ?_, q⟩
    have e : b = s1.heap.objs.size := by simpa using hb
    subst e
    exact I1.fpOk (Nat.le_refl _) (I1.hok.fresh (Nat.le_refl _))
end
section
variable {P : Program} {w : World} {K : PySem.W.Frag} {mg : Str → Option Value} {base : Heap} {C : Addr}
/-- a class by its __init__ (one default, every argument written) -/
theorem DefM.new {x qual : Str} {st : Stmt} {dv : V} {N ps : List Str} {k : Nat} {sp spI : Sp} (D : DefM K C "__init__" qual st [dv]) (hmk : PySem.W.makesIn K C = true) (hkp : PySem.W.keepIn K (.ref C) = true) (g : mg x = some (.ref C)) (S : FnScope N ps (defScope st))
    (hb : ∀ (T : Addr) (kV doc pm : Value) (an : Option Addr) (cdv ct : Value) (us its : List Value), us.length = ps.length → its.length = 1 →
      ∃ k, bindArgs (PySem.W.fnOf "__init__" qual (defArgs st) (defBody st) (defScope st) (.ref T) kV doc pm an cdv ct) ⟨us, []⟩ = seqItems? (.ref T) >>= k ∧ k (some its.toArray) = pure (ps.zip (us ++ its.drop 1)))
    (len : ∀ vs H Q E, spI vs H Q E → vs.length = ps.length)
    (hbody : ∀ (f : Addr) (cdv : Value) (A : Around) (outer : List Env) (s : Shared) (H : Hp) (vs : List V) (Q : VK) (E : XK), Room k (A.deeper (envOfC qual (defScope st) s.heap.objs.size f cdv)) → spI vs H Q E →
      ∃ t, PSs (cxOf CX0 P w K mg base N qual (defScope st) f cdv A outer s H E).nox (defBody st) t ∧ t { nx := fun _ H' => Q .non H', rt := Q } (start N vs) H)
    (hw : ∀ vs H Q, sp vs H Q E0 → ∀ a dx, H a = none → H dx = none → dx ≠ a → spI (.ref a :: vs) (upd (upd H dx (.own a)) a (.ins C dx [])) (fun v H2 => v = .non ∧ Q (.ref a) H2) E0) : NewC P w K mg base (k + 1) x C sp := by
  obtain ⟨f, fd, F, h1, h2⟩ := D.ex
  obtain ⟨ds, v, b⟩ := F.binds1 (ps := ps) ps.length 1 (by simp) (by simp) (fun T kV doc pm an cdv ct us its h3 h4 => hb T kV doc pm an cdv ct us its h3 h4)
  cases v
  refine ⟨f, fd, ps, spI, ⟨hmk, h1, h2, hkp⟩, g, b, F.ok S len fun cdv A outer s H vs Q E hr hq => ?_, hw⟩
  obtain ⟨t, h, q⟩ := hbody f cdv A outer s H vs Q E hr hq
  exact ⟨t, h.nox, q⟩
end
/-! ### tuple(xs), list(xs) -/
def rTupA : List V → Hp → VK → Prop := fun vs H Q => ∃ p, vs = [.ref p] ∧ ((∃ xs, H p = some (.lst xs) ∧ ∀ l, H l = none → Q (.ref l) (upd H l (.tup xs))) ∨ (∃ xs, H p = some (.tup xs) ∧ Q (.ref p) H))
theorem tuple_any {X : Cx} : CallR X (.type "tuple") rTupA := CallR.wk call_tuple_of fun vs H Q h => by
  obtain ⟨p, rfl, ⟨xs, h, q⟩ | ⟨xs, h, q⟩⟩ := h
  · exact ⟨p, xs, rfl, .inl ⟨.inl (.inl h), q⟩⟩
  · exact ⟨p, xs, rfl, .inr ⟨.inl (.inl h), q⟩⟩
theorem r_tupA {p : Addr} {H : Hp} {Q : VK} : rTupA [.ref p] H Q = ((∃ xs, H p = some (.lst xs) ∧ ∀ l, H l = none → Q (.ref l) (upd H l (.tup xs))) ∨ (∃ xs, H p = some (.tup xs) ∧ Q (.ref p) H)) := by
  apply propext
  constructor
  · rintro ⟨q, e, h⟩; cases e; exact h
  · exact fun h => ⟨p, rfl, h⟩
/-! ### a list at d grows by parts that were there (in G) or are new -/
section
variable {G H H2 H3 : Hp} {d : Addr} {o u : HO}
theorem pl_upd : hid (plus G (new H (upd H3 d o))) d = hid (plus G (new H H3)) d := by
  funext b
  unfold hid
  split
  · rfl
  · rename_i n
    unfold plus new
    rw [upd_ne n]
theorem pl_old (s : Same H2 H3) : Same (hid (plus G (new H H2)) d) (hid (plus G (new H H3)) d) := fun b o h => by
  have nd : b ≠ d := fun e => by
    subst e
    unfold hid at h
    rw [if_pos rfl] at h
    cases h
  exact hid_get (plus_mono s b o (hid_same b o h)) nd
theorem sub_none (g : Same G H) {b : Addr} (h : H b = none) : G b = none := g.free h
theorem pl_get {b : Addr} (hG : G b = none) (hH : H b = none) (h : H3 b = some o) : plus G (new H H3) b = some o := by
  unfold plus
  rw [hG]
  exact new_of hH h
theorem pl_made (g : Same G H) (s : Same H H2) (hH : H d = none) (hd : H2 d = some u) : Same (plus G (new H2 H3)) (hid (plus G (new H H3)) d) := fun b x h => by
  unfold plus at h
  split at h
  · rename_i y e
    cases h
    refine hid_get (plus_l b _ e) fun z => ?_
    subst z
    rw [g.free hH] at e
    cases e
  · rename_i e
    have h1 := new_same b x h
    have hn : ¬ (H2 b).isSome = true := fun z => by
      unfold new at h
      rw [if_pos z] at h
      cases h
    refine hid_get (pl_get e ?_ h1) fun z => ?_
    · cases q : H b with
      | none => rfl
      | some y => rw [s b y q] at hn; exact absurd rfl hn
    · subst z
      rw [hd] at hn
      exact hn rfl
theorem pl_more {t : Addr} (ht : H3 t = none) : Same (hid (plus G (new H H3)) d) (hid (plus G (new H (upd H3 t o))) d) := pl_old (sm_new ht)
end
theorem q_iseq {K : PySem.W.Frag} {tl : TE} {σ : L2.St} {H : Hp} {R : It → Hp → Prop} : iSeq K tl σ H R = tl σ H fun x H1 => ∃ a, x = .ref a ∧ (((∃ xs, SqL K H1 a xs) ∧ R (Itl K a) H1) ∨ ((∃ xs, SqT K H1 a xs) ∧ R (Itt K a) H1)) := propext Iff.rfl
/-- [te for k in xs], xs a tuple that stands -/
theorem lc_t {σ : L2.St} {H : Hp} {Q : VK} {K : PySem.W.Frag} {a p : Addr} {xs : List V} {k : Nat} {te : TE} (G : Nat → List V → Hp → Prop) (h0 : G 0 [] (upd H p (.lst []))) (hl : ∀ i ys H, G i ys H → SqT K H a xs)
    (hs : ∀ i x ys H, xs[i]? = some x → ys.length = i → H p = some (.lst ys) → G i ys H → te ((wipe σ [k]).set k (some x)) H (LcNext p i G))
    (hd : ∀ ys H, ys.length = xs.length → H p = some (.lst ys) → G xs.length ys H → Q (.ref p) H) : LcLoop (Itt K a) (gName k) tYes te [k] σ Q p H := by
  refine lc_tup (xs := xs) (Qd := fun H => Q (.ref p) H) (fun i H => ∃ ys, ys.length = i ∧ H p = some (.lst ys) ∧ G i ys H) ⟨[], rfl, upd_same, h0⟩ (fun i H hi ⟨ys, e, hp, hG⟩ => hl i ys H hG) (fun i x H hx ⟨ys, e, hp, hG⟩ => ?_) (fun H ⟨ys, e, hp, hG⟩ => hd ys H e hp hG)
  refine ⟨wipe_one, ?_⟩
  unfold tYes
  simp only [if_true]
  exact hs i x ys H hx e hp hG
/-! ### dicts by keys -/
theorem dget_k {H : Hp} {a : Addr} {k : Key} {r : Option V} : DGet H a (kV k) r = ∃ kvs, Rd H a (.dK kvs) ∧ r = valV kvs k := by
  cases k with
  | inl i => exact dget_i
  | inr z => exact dget_s
theorem dput_k {H : Hp} {a : Addr} {k : Key} {v : V} {R : Hp → Prop} : (∃ H4, DPut H a (kV k) v H4 ∧ R H4) = ∃ kvs, H a = some (.dK kvs) ∧ kvs.length < sizeLine ∧ R (upd H a (.dK (putK kvs k v))) := by
  apply propext
  constructor
  · rintro ⟨H4, (⟨ks, c, h1, h2, h3, h4⟩ | ⟨ks, c, b, h1, h2, _⟩), q⟩
    · cases k <;> cases c <;> cases h2 <;> (subst h4; exact ⟨ks, h1, h3, q⟩)
    · cases k <;> cases h2
  · exact fun ⟨ks, h, hl, q⟩ => ⟨_, .inl ⟨ks, k, h, rfl, hl, rfl⟩, q⟩
theorem dput_i {H : Hp} {a : Addr} {k : Int} {v : V} {R : Hp → Prop} : (∃ H4, DPut H a (.int k) v H4 ∧ R H4) = ∃ kvs, H a = some (.dK kvs) ∧ kvs.length < sizeLine ∧ R (upd H a (.dK (putK kvs (.inl k) v))) := dput_k (k := .inl k)
/-- entries: a list of pairs -/
def Ents (H : Hp) : List V → List Key → List V → Prop
  | [], ks, ws => ks = [] ∧ ws = []
  | e :: es, ks, ws => ∃ t k ks' w ws', e = .ref t ∧ ks = k :: ks' ∧ ws = w :: ws' ∧ H t = some (.tup [kV k, w]) ∧ Ents H es ks' ws'
theorem Ents.mono {H H' : Hp} (s : Same H H') : ∀ {es : List V} {ks : List Key} {ws : List V}, Ents H es ks ws → Ents H' es ks ws
  | [], _, _, h => h
  | e :: es, _, _, h => by
    obtain ⟨t, k, ks', w, ws', e1, e2, e3, h1, h2⟩ := h
    exact ⟨t, k, ks', w, ws', e1, e2, e3, s _ _ h1, h2.mono s⟩
theorem Ents.get {H : Hp} : ∀ {es : List V} {ks : List Key} {ws : List V} {i : Nat} {e : V}, Ents H es ks ws → es[i]? = some e → ∃ t k w, e = .ref t ∧ ks[i]? = some k ∧ ws[i]? = some w ∧ H t = some (.tup [kV k, w])
  | [], _, _, i, e, h, he => by simp at he
  | x :: es, _, _, i, e, h, he => by
    obtain ⟨t, k, ks', w, ws', rfl, rfl, rfl, h1, h2⟩ := h
    cases i with
    | zero => cases he; exact ⟨t, k, w, rfl, rfl, rfl, h1⟩
    | succ i => exact Ents.get (i := i) h2 (by simpa using he)
theorem Ents.len {H : Hp} : ∀ {es : List V} {ks : List Key} {ws : List V}, Ents H es ks ws → ks.length = es.length ∧ ws.length = es.length
  | [], _, _, h => by obtain ⟨rfl, rfl⟩ := h; exact ⟨rfl, rfl⟩
  | x :: es, _, _, h => by
    obtain ⟨t, k, ks', w, ws', rfl, rfl, rfl, h1, h2⟩ := h
    have := h2.len
    simp only [List.length_cons]
    omega
theorem Ents.snoc {H : Hp} : ∀ {es : List V} {ks : List Key} {ws : List V} {t : Addr} {k : Key} {w : V}, Ents H es ks ws → H t = some (.tup [kV k, w]) → Ents H (es ++ [.ref t]) (ks ++ [k]) (ws ++ [w])
  | [], _, _, t, k, w, h, h1 => by obtain ⟨rfl, rfl⟩ := h; exact ⟨t, k, [], w, [], rfl, rfl, rfl, h1, rfl, rfl⟩
  | x :: es, _, _, t, k, w, h, h1 => by
    obtain ⟨t', k', ks', w', ws', rfl, rfl, rfl, h2, h3⟩ := h
    exact ⟨t', k', ks' ++ [k], w', ws' ++ [w], rfl, rfl, rfl, h2, h3.snoc h1⟩
theorem val_zip_none : ∀ {ks : List Key} {us : List V} {k : Key}, k ∉ ks → valV (ks.zip us) k = none
  | [], _, _, _ => rfl
  | _ :: _, [], _, _ => rfl
  | x :: ks, u :: us, k, h => by
    have h1 : ¬ x = k := fun e => h (by simp [e])
    have ih := val_zip_none (ks := ks) (us := us) (k := k) fun z => h (List.mem_cons_of_mem _ z)
    unfold valV at ih ⊢
    rw [List.zip_cons_cons, List.find?_cons_of_neg (by simpa using h1)]
    exact ih
theorem pl_elder {G H H0 H' : Hp} (s : Same H H0) : Same (plus G (new H0 H')) (plus G (new H H')) := fun b o h => by
  unfold plus at h ⊢
  split at h
  · exact h
  · unfold new at h ⊢
    split at h
    · cases h
    · rename_i n
      rw [if_neg]
      · exact h
      · intro z
        obtain ⟨y, hy⟩ := Option.isSome_iff_exists.mp z
        rw [s b y hy] at n
        exact n rfl
theorem q_sfld {K : PySem.W.Frag} {ta tv : TE} {f : Str} {D : L2.Ends} {σ : L2.St} {H : Hp} : sFld K ta tv f D σ H = tv σ H fun y H1 => ta σ H1 fun x H2 => ∃ a C dx fs, x = .ref a ∧ H2 a = some (.ins C dx fs) ∧ Cls K C ∧ NoAttr K C f ∧ fs.length < 1000 ∧ D.nx σ (upd H2 a (.ins C dx (putF f y fs))) := propext Iff.rfl
theorem q_never {D : L2.Ends} {σ : L2.St} {H : Hp} : tNever D σ H = False := rfl
/-- for over a list or a tuple that stands -/
theorem lp_seq {K : PySem.W.Frag} {l : Addr} {es : List V} {g : TG} {tb : TS} {D : L2.Ends} {σ : L2.St} {H : Hp} (hl : H l = some (.lst es) ∨ H l = some (.tup es)) (Pv : Nat → L2.St → Hp → Prop) (h0 : Pv 0 σ H) (hk : ∀ i σ H', Pv i σ H' → ∀ o, H l = some o → H' l = some o)
    (hs : ∀ i x σ H, es[i]? = some x → Pv i σ H → g x σ H fun σ2 H2 => tb { D with nx := Pv (i + 1), ct := Pv (i + 1), bk := D.nx } σ2 H2) (hd : ∀ σ H, Pv es.length σ H → D.nx σ H) :
    ((∃ xs, SqL K H l xs) ∧ Loop (Itl K l) g tb D σ H) ∨ ((∃ xs, SqT K H l xs) ∧ Loop (Itt K l) g tb D σ H) := by
  rcases hl with hl | hl
  · exact .inl ⟨⟨es, .inl (.inl hl)⟩, for_list (xs := es) Pv h0 (fun i σ H' _ p => .inl (.inl (hk i σ H' p _ hl))) hs hd⟩
  · exact .inr ⟨⟨es, .inl (.inl hl)⟩, for_tup (xs := es) Pv h0 (fun i σ H' _ p => .inl (.inl (hk i σ H' p _ hl))) hs hd⟩
theorem nodup_take {α : Type} : ∀ {ks : List α} {i : Nat} {k : α}, ks.Nodup → ks[i]? = some k → k ∉ ks.take i
  | [], i, k, _, e => by simp at e
  | x :: ks, 0, k, _, _ => by simp
  | x :: ks, i + 1, k, h, e => by
    obtain ⟨h1, h2⟩ := List.nodup_cons.mp h
    have e' : ks[i]? = some k := by simpa using e
    rw [List.take_succ_cons]
    intro z
    rcases List.mem_cons.mp z with z | z
    · subst z; exact h1 (List.mem_of_getElem? e')
    · exact nodup_take h2 e' z
theorem nodup_snoc {α : Type} {ks : List α} {k : α} (h : ks.Nodup) (n : k ∉ ks) : (ks ++ [k]).Nodup := by
  rw [List.nodup_append]
  refine ⟨h, by simp, fun a ha b hb => ?_⟩
  rw [List.mem_singleton.mp hb]
  rintro rfl
  exact n ha
end KB
namespace KQ
open PySem PySem.Spec PyProof.Rows L2 TL KB
/-! ### trees: what values mean, without addresses -/
inductive Tr where
  | non
  | bl (b : Bool)
  | int (n : Int)
  | str (z : Str)
  | ty (n : String)
  | ref (a : Addr)
  | scr (ns : List Int)
  | exc (a d : Addr) (c : Value) (fs : List Str) (xs : List Tr)
  | lst (xs : List Tr)
  | tup (xs : List Tr)
  | dic (ks : List Key) (xs : List Tr)
  | ins (C : Addr) (fs : List Str) (xs : List Tr)
  | opq (o : HO)
  | sem (c : Hp → Addr → HO → Prop)
abbrev Sto := Addr → Option Tr
abbrev Rho := List (Option Tr)
mutual
def Rep (K : PySem.W.Frag) (I : Hp) : Tr → V → Prop
  | .non, v => v = .non
  | .bl b, v => v = .bl b
  | .int n, v => v = .int n
  | .str z, v => v = .str z
  | .ty n, v => v = .ty n
  | .ref a, v => v = .ref a
  | .scr ns, v => ∃ a, v = .ref a ∧ SqL K I a (ns.map V.int)
  | .exc a d c fs xs, v => v = .ref a ∧ ∃ vs, I d = some (.xd (fs.zip vs)) ∧ fs.length = xs.length ∧ RepL K I xs vs
  | .lst xs, v => ∃ a vs, v = .ref a ∧ I a = some (.lst vs) ∧ RepL K I xs vs
  | .tup xs, v => ∃ a vs, v = .ref a ∧ SqT K I a vs ∧ RepL K I xs vs
  | .dic ks xs, v => ∃ a vs, v = .ref a ∧ I a = some (.dK (ks.zip vs)) ∧ ks.length = xs.length ∧ RepL K I xs vs
  | .ins C fs xs, v => ∃ a dx vs, v = .ref a ∧ I a = some (.ins C dx (fs.zip vs)) ∧ fs.length = xs.length ∧ RepL K I xs vs
  | .opq q, v => ∃ a, v = .ref a ∧ I a = some q
  | .sem c, v => ∃ a o, v = .ref a ∧ I a = some o ∧ ∀ I', Same I I' → c I' a o
def RepL (K : PySem.W.Frag) (I : Hp) : List Tr → List V → Prop
  | [], vs => vs = []
  | x :: xs, vs => ∃ v ws, vs = v :: ws ∧ Rep K I x v ∧ RepL K I xs ws
end
theorem sqT_mono {K : PySem.W.Frag} {H H' : Hp} {a : Addr} {xs : List V} (e : Same H H') (h : SqT K H a xs) : SqT K H' a xs := by
  rcases h with (h | ⟨o, h⟩) | h
  · exact .inl (.inl (e _ _ h))
  · exact .inl (.inr ⟨o, e _ _ h⟩)
  · exact .inr h
section
variable {K : PySem.W.Frag} {I I' : Hp}
mutual
theorem Rep.mono (s : Same I I') : ∀ (x : Tr) (v : V), Rep K I x v → Rep K I' x v
  | .non, _, h => h
  | .bl _, _, h => h
  | .int _, _, h => h
  | .str _, _, h => h
  | .ty _, _, h => h
  | .ref _, _, h => h
  | .scr _, _, h => by
    obtain ⟨a, e, h⟩ := h
    exact ⟨a, e, s.seq h⟩
  | .exc a d c fs xs, _, h => by
    obtain ⟨e, vs, h1, h2, h3⟩ := h
    exact ⟨e, vs, s _ _ h1, h2, RepL.mono s xs vs h3⟩
  | .lst xs, _, h => by
    obtain ⟨a, vs, e, h1, h2⟩ := h
    exact ⟨a, vs, e, s _ _ h1, RepL.mono s xs vs h2⟩
  | .tup xs, _, h => by
    obtain ⟨a, vs, e, h1, h2⟩ := h
    exact ⟨a, vs, e, sqT_mono s h1, RepL.mono s xs vs h2⟩
  | .dic ks xs, _, h => by
    obtain ⟨a, vs, e, h1, h2, h3⟩ := h
    exact ⟨a, vs, e, s _ _ h1, h2, RepL.mono s xs vs h3⟩
  | .ins C fs xs, _, h => by
    obtain ⟨a, dx, vs, e, h1, h2, h3⟩ := h
    exact ⟨a, dx, vs, e, s _ _ h1, h2, RepL.mono s xs vs h3⟩
  | .opq q, _, h => by
    obtain ⟨a, e, h1⟩ := h
    exact ⟨a, e, s _ _ h1⟩
  | .sem c, _, h => by
    obtain ⟨a, o, e, h1, h2⟩ := h
    exact ⟨a, o, e, s _ _ h1, fun I2 s2 => h2 I2 (s.trans s2)⟩
theorem RepL.mono (s : Same I I') : ∀ (xs : List Tr) (vs : List V), RepL K I xs vs → RepL K I' xs vs
  | [], _, h => h
  | x :: xs, _, h => by
    obtain ⟨v, ws, e, h1, h2⟩ := h
    exact ⟨v, ws, e, Rep.mono s x v h1, RepL.mono s xs ws h2⟩
end
theorem RepL.nil : RepL K I [] [] := rfl
theorem RepL.cons {x : Tr} {v : V} {xs : List Tr} {vs : List V} (h : Rep K I x v) (t : RepL K I xs vs) : RepL K I (x :: xs) (v :: vs) := ⟨v, vs, rfl, h, t⟩
theorem RepL.len : ∀ {xs : List Tr} {vs : List V}, RepL K I xs vs → vs.length = xs.length
  | [], _, h => by cases h; rfl
  | x :: xs, _, h => by
    obtain ⟨v, ws, rfl, h1, h2⟩ := h
    rw [List.length_cons, List.length_cons, h2.len]
theorem RepL.app : ∀ {xs ys : List Tr} {vs ws : List V}, RepL K I xs vs → RepL K I ys ws → RepL K I (xs ++ ys) (vs ++ ws)
  | [], _, _, _, h, g => by cases h; exact g
  | x :: xs, _, _, _, h, g => by
    obtain ⟨v, ws, rfl, h1, h2⟩ := h
    exact ⟨v, _, rfl, h1, h2.app g⟩
theorem RepL.get : ∀ {xs : List Tr} {vs : List V} {i : Nat} {v : V}, RepL K I xs vs → vs[i]? = some v → ∃ x, xs[i]? = some x ∧ Rep K I x v
  | [], _, i, v, h, e => by cases h; simp at e
  | x :: xs, _, i, v, h, e => by
    obtain ⟨y, us, rfl, h2, h3⟩ := h
    cases i with
    | zero => cases e; exact ⟨x, rfl, h2⟩
    | succ i => exact RepL.get (i := i) h3 (by simpa using e)
theorem RepL.get' : ∀ {xs : List Tr} {vs : List V} {i : Nat} {x : Tr}, RepL K I xs vs → xs[i]? = some x → ∃ v, vs[i]? = some v ∧ Rep K I x v
  | [], _, i, v, h, e => by simp at e
  | x :: xs, _, i, v, h, e => by
    obtain ⟨y, us, rfl, h2, h3⟩ := h
    cases i with
    | zero => cases e; exact ⟨y, rfl, h2⟩
    | succ i => exact RepL.get' (i := i) h3 (by simpa using e)
theorem RepL.drop : ∀ {xs : List Tr} {vs : List V} (n : Nat), RepL K I xs vs → RepL K I (xs.drop n) (vs.drop n)
  | _, _, 0, h => h
  | [], _, n + 1, h => by cases h; exact rfl
  | x :: xs, _, n + 1, h => by
    obtain ⟨v, ws, rfl, h1, h2⟩ := h
    exact RepL.drop n h2
theorem RepL.take : ∀ {xs : List Tr} {vs : List V} (n : Nat), RepL K I xs vs → RepL K I (xs.take n) (vs.take n)
  | _, _, 0, h => rfl
  | [], _, n + 1, h => by cases h; exact rfl
  | x :: xs, _, n + 1, h => by
    obtain ⟨v, ws, rfl, h1, h2⟩ := h
    exact ⟨v, _, rfl, h1, RepL.take n h2⟩
theorem RepL.set : ∀ {xs : List Tr} {vs : List V} {x : Tr} {v : V} (n : Nat), RepL K I xs vs → Rep K I x v → RepL K I (xs.set n x) (vs.set n v)
  | [], _, _, _, n, h, _ => by cases h; exact rfl
  | y :: xs, _, x, v, 0, h, g => by
    obtain ⟨w, ws, rfl, h1, h2⟩ := h
    exact ⟨v, ws, rfl, g, h2⟩
  | y :: xs, _, x, v, n + 1, h, g => by
    obtain ⟨w, ws, rfl, h1, h2⟩ := h
    exact ⟨w, _, rfl, h1, RepL.set n h2 g⟩
theorem RepL.ints : ∀ (ns : List Int), RepL K I (ns.map Tr.int) (ns.map V.int)
  | [] => rfl
  | n :: ns => ⟨_, _, rfl, rfl, RepL.ints ns⟩
theorem RepL.strs : ∀ (ns : List Str), RepL K I (ns.map Tr.str) (ns.map V.str)
  | [] => rfl
  | n :: ns => ⟨_, _, rfl, rfl, RepL.strs ns⟩
end
/-! ### what a cell holds -/
def CRep (K : PySem.W.Frag) (I : Hp) : Tr → HO → Prop
  | .lst xs, o => ∃ vs, o = .lst vs ∧ RepL K I xs vs
  | .dic ks xs, o => ∃ vs, o = .dK (ks.zip vs) ∧ ks.length = xs.length ∧ RepL K I xs vs
  | .ins C fs xs, o => ∃ dx vs, o = .ins C dx (fs.zip vs) ∧ fs.length = xs.length ∧ RepL K I xs vs
  | .opq q, o => o = q
  | .sem c, o => ∀ I' a, Same I I' → c I' a o
  | _, _ => False
theorem CRep.mono {K : PySem.W.Frag} {I I' : Hp} (s : Same I I') {c : Tr} {o : HO} (h : CRep K I c o) : CRep K I' c o := by
  cases c with
  | lst xs => obtain ⟨vs, e, h⟩ := h; exact ⟨vs, e, h.mono s⟩
  | dic ks xs => obtain ⟨vs, e, l, h⟩ := h; exact ⟨vs, e, l, h.mono s⟩
  | ins C fs xs => obtain ⟨dx, vs, e, l, h⟩ := h; exact ⟨dx, vs, e, l, h.mono s⟩
  | opq q => exact h
  | sem c => exact fun I2 a s2 => h I2 a (s.trans s2)
  | _ => exact h.elim
def lk : Option Obj → HO → HO
  | none, o => o
  | some od, o => .frz od o
abbrev Lk := Addr → Option Obj
/-- H holds: the trees' part I (dicts locked by L), the cells S, the frame F -/
structure Hd (K : PySem.W.Frag) (L : Lk) (F H : Hp) (S : Sto) (I : Hp) : Prop where
  sub : ∀ b o, I b = some o → H b = some (lk (L b) o)
  lck : ∀ b od, L b = some od → ∃ kvs, I b = some (.dK kvs)
  cel : ∀ a c, S a = some c → I a = none ∧ F a = none ∧ ∃ o, H a = some o ∧ CRep K I c o
  fra : ∀ b o, F b = some o → H b = some o ∧ I b = none
def put (S : Sto) (a : Addr) (c : Tr) : Sto := fun b => if b = a then some c else S b
theorem put_same {S : Sto} {a : Addr} {c : Tr} : put S a c a = some c := if_pos rfl
theorem put_ne {S : Sto} {a b : Addr} {c : Tr} (h : b ≠ a) : put S a c b = S b := if_neg h
theorem put_put {S : Sto} {a : Addr} {c d : Tr} : put (put S a c) a d = put S a d := by
  funext b; unfold put; split <;> rfl
theorem put_comm {S : Sto} {a b : Addr} {c d : Tr} (h : a ≠ b) : put (put S a c) b d = put (put S b d) a c := by
  funext x; unfold put; split
  · rename_i e; subst e; rw [if_neg h.symm]
  · rfl
section
variable {K : PySem.W.Frag} {L : Lk} {F H : Hp} {S : Sto} {I : Hp} {a b p d : Addr} {o : HO} {c : Tr}
theorem Hd.freeI (h : Hd K L F H S I) (n : H p = none) : I p = none := by
  cases e : I p with
  | none => rfl
  | some o => rw [h.sub p o e] at n; cases n
theorem Hd.freeS (h : Hd K L F H S I) (n : H p = none) : S p = none := by
  cases e : S p with
  | none => rfl
  | some o => obtain ⟨_, _, o, e, _⟩ := h.cel p o e; rw [e] at n; cases n
theorem Hd.freeF (h : Hd K L F H S I) (n : H p = none) : F p = none := by
  cases e : F p with
  | none => rfl
  | some o => rw [(h.fra p o e).1] at n; cases n
theorem Hd.freeL (h : Hd K L F H S I) (n : H p = none) : L p = none := by
  cases e : L p with
  | none => rfl
  | some o => obtain ⟨k, e⟩ := h.lck p o e; rw [h.freeI n] at e; cases e
theorem Hd.lkN (h : Hd K L F H S I) (n : I p = none) : L p = none := by
  cases e : L p with
  | none => rfl
  | some o => obtain ⟨k, e⟩ := h.lck p o e; rw [n] at e; cases e
theorem upd_sub {H' : Hp} {p : Addr} {o : HO} (n : H' p = none) : Same H' (upd H' p o) := fun b u e => by rw [upd_ne (ne_of_none e n)]; exact e
/-- a new thing of the trees -/
theorem Hd.imm (h : Hd K L F H S I) (n : H p = none) : Hd K L F (upd H p o) S (upd I p o) where
  sub := fun b u e => by
    by_cases hb : b = p
    · subst hb; rw [upd_same] at e ⊢; cases e; rw [h.freeL n]; rfl
    · rw [upd_ne hb] at e ⊢; exact h.sub b u e
  lck := fun b od e => by
    obtain ⟨k, e⟩ := h.lck b od e
    exact ⟨k, by rw [upd_ne (ne_of_none e (h.freeI n))]; exact e⟩
  cel := fun a c e => by
    obtain ⟨h1, h2, o', h3, h4⟩ := h.cel a c e
    have hn : a ≠ p := ne_of_none h3 n
    exact ⟨by rw [upd_ne hn]; exact h1, h2, o', by rw [upd_ne hn]; exact h3, h4.mono (upd_sub (h.freeI n))⟩
  fra := fun b u e => by
    obtain ⟨h1, h2⟩ := h.fra b u e
    have hn : b ≠ p := ne_of_none h1 n
    exact ⟨by rw [upd_ne hn]; exact h1, by rw [upd_ne hn]; exact h2⟩
/-- a new thing that nobody tracks -/
theorem Hd.un (h : Hd K L F H S I) (n : H p = none) : Hd K L F (upd H p o) S I where
  sub := fun b u e => by rw [upd_ne (ne_of_none (h.sub b u e) n)]; exact h.sub b u e
  lck := h.lck
  cel := fun a c e => by
    obtain ⟨h1, h2, o', h3, h4⟩ := h.cel a c e
    exact ⟨h1, h2, o', by rw [upd_ne (ne_of_none h3 n)]; exact h3, h4⟩
  fra := fun b u e => by
    obtain ⟨h1, h2⟩ := h.fra b u e
    exact ⟨by rw [upd_ne (ne_of_none h1 n)]; exact h1, h2⟩
/-- a new cell -/
theorem Hd.cell (h : Hd K L F H S I) (n : H p = none) (r : CRep K I c o) : Hd K L F (upd H p o) (put S p c) I where
  sub := (h.un n).sub
  lck := h.lck
  cel := fun a c' e => by
    by_cases ha : a = p
    · subst ha; rw [put_same] at e; cases e
      exact ⟨h.freeI n, h.freeF n, o, upd_same, r⟩
    · rw [put_ne ha] at e
      exact (h.un n).cel a c' e
  fra := (h.un n).fra
/-- a cell is changed -/
theorem Hd.mut (h : Hd K L F H S I) {c0 : Tr} (e0 : S a = some c0) (r : CRep K I c o) : Hd K L F (upd H a o) (put S a c) I := by
  obtain ⟨i0, f0, _⟩ := h.cel a c0 e0
  refine ⟨fun b u e => ?_, h.lck, fun b c' e => ?_, fun b u e => ?_⟩
  · rw [upd_ne (ne_of_none e i0)]; exact h.sub b u e
  · by_cases hb : b = a
    · subst hb; rw [put_same] at e; cases e
      exact ⟨i0, f0, o, upd_same, r⟩
    · rw [put_ne hb] at e
      obtain ⟨h1, h2, o', h3, h4⟩ := h.cel b c' e
      exact ⟨h1, h2, o', by rw [upd_ne hb]; exact h3, h4⟩
  · obtain ⟨h1, h2⟩ := h.fra b u e
    exact ⟨by rw [upd_ne (ne_of_none e f0)]; exact h1, h2⟩
/-- into the frame -/
theorem Hd.frame (h : Hd K L F H S I) (n : H p = none) : Hd K L (upd F p o) (upd H p o) S I where
  sub := (h.un n).sub
  lck := h.lck
  cel := fun a c e => by
    obtain ⟨h1, h2, o', h3, h4⟩ := h.cel a c e
    have hn : a ≠ p := ne_of_none h3 n
    exact ⟨h1, by rw [upd_ne hn]; exact h2, o', by rw [upd_ne hn]; exact h3, h4⟩
  fra := fun b u e => by
    by_cases hb : b = p
    · subst hb; rw [upd_same] at e ⊢; exact ⟨e, h.freeI n⟩
    · rw [upd_ne hb] at e ⊢; exact h.fra b u e
/-- what stands in the frame is changed -/
theorem Hd.refr {u : HO} (h : Hd K L (upd F p u) H S I) : Hd K L (upd F p o) (upd H p o) S I := by
  obtain ⟨hp, ip⟩ := h.fra p u upd_same
  refine ⟨fun b v e => ?_, h.lck, fun a c e => ?_, fun b v e => ?_⟩
  · rw [upd_ne (ne_of_none e ip)]; exact h.sub b v e
  · obtain ⟨h1, h2, o', h3, h4⟩ := h.cel a c e
    have hn : a ≠ p := fun z => by subst z; rw [upd_same] at h2; cases h2
    exact ⟨h1, by rw [upd_ne hn] at h2 ⊢; exact h2, o', by rw [upd_ne hn]; exact h3, h4⟩
  · by_cases hb : b = p
    · subst hb; rw [upd_same] at e ⊢; exact ⟨e, ip⟩
    · rw [upd_ne hb] at e ⊢
      exact h.fra b v (by rw [upd_ne hb]; exact e)
/-- out of the frame to the trees -/
theorem Hd.unframe (h : Hd K L (upd F p o) H S I) (n : F p = none) : Hd K L F H S (upd I p o) := by
  obtain ⟨hp, ip⟩ := h.fra p o upd_same
  refine ⟨fun b v e => ?_, fun b od e => ?_, fun a c e => ?_, fun b v e => ?_⟩
  · by_cases hb : b = p
    · subst hb; rw [upd_same] at e; cases e; rw [h.lkN ip]; exact hp
    · rw [upd_ne hb] at e; exact h.sub b v e
  · obtain ⟨k, e⟩ := h.lck b od e
    exact ⟨k, by rw [upd_ne (ne_of_none e ip)]; exact e⟩
  · obtain ⟨h1, h2, o', h3, h4⟩ := h.cel a c e
    have hn : a ≠ p := fun z => by subst z; rw [upd_same] at h2; cases h2
    exact ⟨by rw [upd_ne hn]; exact h1, by rw [upd_ne hn] at h2; exact h2, o', h3, h4.mono (upd_sub ip)⟩
  · have hn : b ≠ p := ne_of_none e n
    obtain ⟨h1, h2⟩ := h.fra b v (by rw [upd_ne hn]; exact e)
    exact ⟨h1, by rw [upd_ne hn]; exact h2⟩
theorem Hd.fewer {S' : Sto} (h : Hd K L F H S I) (s : ∀ a c, S' a = some c → S a = some c) : Hd K L F H S' I := ⟨h.sub, h.lck, fun a c e => h.cel a c (s a c e), h.fra⟩
theorem Hd.lessF {F' : Hp} (h : Hd K L F H S I) (s : Same F' F) : Hd K L F' H S I := ⟨h.sub, h.lck, fun a c e => by
  obtain ⟨h1, h2, h3⟩ := h.cel a c e
  exact ⟨h1, s.free h2, h3⟩, fun b o e => h.fra b o (s b o e)⟩
/-- to the trees: what stands in H and nobody tracks -/
theorem Hd.adopt (h : Hd K L F H S I) (e : H p = some o) (hi : I p = none) (hs : S p = none) (hf : F p = none) : Hd K L F H S (upd I p o) := by
  refine ⟨fun b v z => ?_, fun b od z => ?_, fun a c z => ?_, fun b v z => ?_⟩
  · by_cases hb : b = p
    · subst hb; rw [upd_same] at z; cases z; rw [h.lkN hi]; exact e
    · rw [upd_ne hb] at z; exact h.sub b v z
  · obtain ⟨k, z⟩ := h.lck b od z
    exact ⟨k, by rw [upd_ne (ne_of_none z hi)]; exact z⟩
  · obtain ⟨h1, h2, o', h3, h4⟩ := h.cel a c z
    have hn : a ≠ p := fun y => by subst y; rw [hs] at z; cases z
    exact ⟨by rw [upd_ne hn]; exact h1, h2, o', h3, h4.mono (upd_sub hi)⟩
  · have hn : b ≠ p := fun y => by subst y; rw [hf] at z; cases z
    obtain ⟨h1, h2⟩ := h.fra b v z
    exact ⟨h1, by rw [upd_ne hn]; exact h2⟩
def setL (L : Lk) (d : Addr) (v : Option Obj) : Lk := fun b => if b = d then v else L b
/-- a dict of the trees is locked -/
theorem Hd.lock {kvs : List (Key × V)} {od : Obj} (h : Hd K L F H S I) (e : I d = some (.dK kvs)) : Hd K (setL L d (some od)) F (upd H d (.frz od (.dK kvs))) S I := by
  refine ⟨fun b u z => ?_, fun b od' z => ?_, fun a c z => ?_, fun b u z => ?_⟩
  · by_cases hb : b = d
    · subst hb; rw [e] at z; cases z; rw [upd_same]; unfold setL; rw [if_pos rfl]; rfl
    · rw [upd_ne hb]; unfold setL; rw [if_neg hb]; exact h.sub b u z
  · unfold setL at z
    split at z
    · rename_i hb; subst hb; exact ⟨kvs, e⟩
    · exact h.lck b od' z
  · obtain ⟨h1, h2, o', h3, h4⟩ := h.cel a c z
    have hn : a ≠ d := fun y => by subst y; rw [e] at h1; cases h1
    exact ⟨h1, h2, o', by rw [upd_ne hn]; exact h3, h4⟩
  · obtain ⟨h1, h2⟩ := h.fra b u z
    have hn : b ≠ d := fun y => by subst y; rw [e] at h2; cases h2
    exact ⟨by rw [upd_ne hn]; exact h1, h2⟩
theorem Hd.unlock {kvs : List (Key × V)} {od : Obj} (h : Hd K (setL L d (some od)) F H S I) (hl : L d = none) (e : I d = some (.dK kvs)) : H d = some (.frz od (.dK kvs)) ∧ Hd K L F (upd H d (.dK kvs)) S I := by
  have hd := h.sub d _ e
  unfold setL at hd
  rw [if_pos rfl] at hd
  refine ⟨hd, fun b u z => ?_, fun b od' z => ?_, fun a c z => ?_, fun b u z => ?_⟩
  · by_cases hb : b = d
    · subst hb; rw [e] at z; cases z; rw [upd_same, hl]; rfl
    · have q := h.sub b u z
      unfold setL at q
      rw [if_neg hb] at q
      rw [upd_ne hb]; exact q
  · have hb : b ≠ d := fun y => by subst y; rw [hl] at z; cases z
    exact h.lck b od' (by unfold setL; rw [if_neg hb]; exact z)
  · obtain ⟨h1, h2, o', h3, h4⟩ := h.cel a c z
    have hn : a ≠ d := fun y => by subst y; rw [e] at h1; cases h1
    exact ⟨h1, h2, o', by rw [upd_ne hn]; exact h3, h4⟩
  · obtain ⟨h1, h2⟩ := h.fra b u z
    have hn : b ≠ d := fun y => by subst y; rw [e] at h2; cases h2
    exact ⟨by rw [upd_ne hn]; exact h1, h2⟩
end
/-! ### what a tree shows, cells looked at -/
def vw (S : Sto) : Tr → Tr
  | .ref a => (S a).getD (.ref a)
  | x => x
theorem vw_ref {S : Sto} {a : Addr} {c : Tr} (h : S a = some c) : vw S (.ref a) = c := by show (S a).getD _ = c; rw [h]; rfl
section
variable {K : PySem.W.Frag} {L : Lk} {F H : Hp} {S : Sto} {I : Hp} {x : Tr} {v : V}
theorem vw_cases (S : Sto) (x : Tr) : (vw S x = x ∧ ∀ a, x = .ref a → S a = none) ∨ ∃ a c, x = .ref a ∧ S a = some c ∧ vw S x = c := by
  cases x with
  | ref a =>
    cases e : S a with
    | none => exact .inl ⟨by show (S a).getD _ = _; rw [e]; rfl, fun b z => by cases z; exact e⟩
    | some c => exact .inr ⟨a, c, rfl, e, vw_ref e⟩
  | _ => exact .inl ⟨rfl, fun a z => nomatch z⟩
theorem vw_lst {xs : List Tr} (h : Hd K L F H S I) (r : Rep K I x v) (e : vw S x = .lst xs) : ∃ a vs, v = .ref a ∧ H a = some (.lst vs) ∧ RepL K I xs vs := by
  rcases vw_cases S x with ⟨e1, n⟩ | ⟨a, c, rfl, ea, e1⟩
  · rw [e1] at e; subst e
    obtain ⟨a, vs, rfl, h1, h2⟩ := r
    have q := h.sub a _ h1
    have hl : L a = none := by
      cases z : L a with
      | none => rfl
      | some od => obtain ⟨k, z⟩ := h.lck a od z; rw [h1] at z; cases z
    rw [hl] at q
    exact ⟨a, vs, rfl, q, h2⟩
  · rw [e1] at e; subst e
    obtain ⟨_, _, o, h1, vs, rfl, h2⟩ := h.cel a _ ea
    cases r
    exact ⟨a, vs, rfl, h1, h2⟩
theorem Hd.sqT (h : Hd K L F H S I) {a : Addr} {vs : List V} (q : SqT K I a vs) : SqT K H a vs := by
  rcases q with (q | ⟨o, q⟩) | q
  · have e := h.sub a _ q
    cases z : L a with
    | none => rw [z] at e; exact .inl (.inl e)
    | some od => rw [z] at e; exact .inl (.inr ⟨od, e⟩)
  · have e := h.sub a _ q
    cases z : L a with
    | none => rw [z] at e; exact .inl (.inr ⟨o, e⟩)
    | some od => obtain ⟨k, z⟩ := h.lck a od z; rw [q] at z; cases z
  · exact .inr q
theorem Hd.sqL (h : Hd K L F H S I) {a : Addr} {vs : List V} (q : SqL K I a vs) : SqL K H a vs := by
  rcases q with (q | ⟨o, q⟩) | q
  · have e := h.sub a _ q
    cases z : L a with
    | none => rw [z] at e; exact .inl (.inl e)
    | some od => rw [z] at e; exact .inl (.inr ⟨od, e⟩)
  · have e := h.sub a _ q
    cases z : L a with
    | none => rw [z] at e; exact .inl (.inr ⟨o, e⟩)
    | some od => obtain ⟨k, z⟩ := h.lck a od z; rw [q] at z; cases z
  · exact .inr q
theorem vw_tup {xs : List Tr} (h : Hd K L F H S I) (r : Rep K I x v) (e : vw S x = .tup xs) : ∃ a vs, v = .ref a ∧ SqT K H a vs ∧ RepL K I xs vs := by
  rcases vw_cases S x with ⟨e1, n⟩ | ⟨a, c, rfl, ea, e1⟩
  · rw [e1] at e; subst e
    obtain ⟨a, vs, rfl, h1, h2⟩ := r
    exact ⟨a, vs, rfl, h.sqT h1, h2⟩
  · rw [e1] at e; subst e
    obtain ⟨_, _, o, h1, h2⟩ := h.cel a _ ea
    exact h2.elim
theorem vw_scr {ns : List Int} (h : Hd K L F H S I) (r : Rep K I x v) (e : vw S x = .scr ns) : ∃ a, v = .ref a ∧ SqL K H a (ns.map V.int) := by
  rcases vw_cases S x with ⟨e1, n⟩ | ⟨a, c, rfl, ea, e1⟩
  · rw [e1] at e; subst e
    obtain ⟨a, rfl, h1⟩ := r
    exact ⟨a, rfl, h.sqL h1⟩
  · rw [e1] at e; subst e
    obtain ⟨_, _, o, h1, h2⟩ := h.cel a _ ea
    exact h2.elim
theorem vw_dic {ks : List Key} {xs : List Tr} (h : Hd K L F H S I) (r : Rep K I x v) (e : vw S x = .dic ks xs) : ∃ a vs, v = .ref a ∧ Rd H a (.dK (ks.zip vs)) ∧ ks.length = xs.length ∧ RepL K I xs vs := by
  rcases vw_cases S x with ⟨e1, n⟩ | ⟨a, c, rfl, ea, e1⟩
  · rw [e1] at e; subst e
    obtain ⟨a, vs, rfl, h1, h2, h3⟩ := r
    refine ⟨a, vs, rfl, ?_, h2, h3⟩
    have q := h.sub a _ h1
    cases z : L a with
    | none => rw [z] at q; exact .inl q
    | some od => rw [z] at q; exact .inr ⟨od, q⟩
  · rw [e1] at e; subst e
    obtain ⟨_, _, o, h1, vs, rfl, h2, h3⟩ := h.cel a _ ea
    cases r
    exact ⟨a, vs, rfl, .inl h1, h2, h3⟩
theorem vw_ins {C : Addr} {fs : List Str} {xs : List Tr} (h : Hd K L F H S I) (r : Rep K I x v) (e : vw S x = .ins C fs xs) : ∃ a dx vs, v = .ref a ∧ H a = some (.ins C dx (fs.zip vs)) ∧ fs.length = xs.length ∧ RepL K I xs vs := by
  rcases vw_cases S x with ⟨e1, n⟩ | ⟨a, c, rfl, ea, e1⟩
  · rw [e1] at e; subst e
    obtain ⟨a, dx, vs, rfl, h1, h2, h3⟩ := r
    refine ⟨a, dx, vs, rfl, ?_, h2, h3⟩
    have q := h.sub a _ h1
    cases z : L a with
    | none => rw [z] at q; exact q
    | some od => obtain ⟨k, z⟩ := h.lck a od z; rw [h1] at z; cases z
  · rw [e1] at e; subst e
    obtain ⟨_, _, o, h1, dx, vs, rfl, h2, h3⟩ := h.cel a _ ea
    cases r
    exact ⟨a, dx, vs, rfl, h1, h2, h3⟩
theorem Rep.int {n : Int} (r : Rep K I (.int n) v) : v = .int n := r
theorem Rep.flat (r : Rep K I x v) (e : vw S x = .non ∨ (∃ b, vw S x = .bl b) ∨ (∃ n, vw S x = .int n) ∨ ∃ z, vw S x = .str z) (h : Hd K L F H S I) : vw S x = x := by
  rcases vw_cases S x with ⟨e1, n⟩ | ⟨a, c, rfl, ea, e1⟩
  · exact e1
  · obtain ⟨_, _, o, h1, h2⟩ := h.cel a _ ea
    rw [e1] at e
    rcases e with rfl | ⟨b, rfl⟩ | ⟨b, rfl⟩ | ⟨b, rfl⟩ <;> exact h2.elim
end
end KQ
namespace KQ
open PySem PySem.Spec PyProof.Rows L2 TL KB
/-! ### readings over trees -/
abbrev QV := Tr → Sto → Prop
abbrev QX := Value → List Str → List Tr → Sto → Prop
abbrev QL := List Tr → Sto → Prop
abbrev QB := Bool → Sto → Prop
abbrev QS := Rho → Sto → Prop
abbrev XS := Value → List Str → List Tr → Rho → Sto → Prop
abbrev UE := Rho → Sto → QV → QX → Prop
abbrev UA := Rho → Sto → QL → QX → Prop
abbrev UT := Rho → Sto → QB → QX → Prop
structure UEnds where
  nx : QS
  rt : QV
  bk : QS
  ct : QS
abbrev US := UEnds → XS → Rho → Sto → Prop
abbrev UG := Tr → Rho → Sto → QS → Prop
abbrev UGs := List Tr → Rho → Sto → QS → Prop
/-- what is walked: the items, and what must hold of the cells at each turn -/
structure Walk where
  xs : List Tr
  ok : Sto → Prop
abbrev UI := Rho → Sto → (Walk → Sto → Prop) → QX → Prop
def Slots (K : PySem.W.Frag) (I : Hp) (σ : L2.St) (ρ : Rho) : Prop := σ.length = ρ.length ∧ ∀ (i : Nat) (x : Tr), ρ[i]? = some (some x) → ∃ v, σ[i]? = some (some v) ∧ Rep K I x v
section
variable {K : PySem.W.Frag} {I I' : Hp} {σ : L2.St} {ρ : Rho}
theorem Slots.mono (h : Slots K I σ ρ) (s : Same I I') : Slots K I' σ ρ := ⟨h.1, fun i x e => by
  obtain ⟨v, e, r⟩ := h.2 i x e
  exact ⟨v, e, r.mono s⟩⟩
theorem Slots.set {i : Nat} {x : Tr} {v : V} (h : Slots K I σ ρ) (r : Rep K I x v) : Slots K I (σ.set i (some v)) (ρ.set i (some x)) := by
  refine ⟨by simp [h.1], fun j y e => ?_⟩
  by_cases hj : i = j
  · subst hj
    have hl : i < ρ.length := by
      by_cases z : i < ρ.length
      · exact z
      · rw [List.getElem?_eq_none (by simpa using z)] at e; cases e
    rw [List.getElem?_set_self hl] at e
    cases e
    exact ⟨v, by rw [List.getElem?_set_self (by rw [h.1]; exact hl)], r⟩
  · rw [List.getElem?_set_ne hj] at e ⊢
    exact h.2 j y e
theorem Slots.none {i : Nat} {o : Option V} (h : Slots K I σ ρ) : Slots K I (σ.set i o) (ρ.set i none) := by
  refine ⟨by simp [h.1], fun j y e => ?_⟩
  by_cases hj : i = j
  · subst hj
    by_cases z : i < ρ.length
    · rw [List.getElem?_set_self z] at e; cases e
    · rw [List.getElem?_eq_none (by simpa using z)] at e; cases e
  · rw [List.getElem?_set_ne hj] at e ⊢
    exact h.2 j y e
def wipeR (ρ : Rho) : List Nat → Rho
  | [] => ρ
  | i :: r => (wipeR ρ r).set i none
theorem Slots.wipe {vs : List Nat} (h : Slots K I σ ρ) : Slots K I (L2.wipe σ vs) (wipeR ρ vs) := by
  induction vs with
  | nil => exact h
  | cons i r ih => exact ih.none
end
section
variable (K : PySem.W.Frag) (L : Lk) (F : Hp) (I : Hp)
def dnV (R : VK) : QV := fun y S' => ∀ v H' I', Hd K L F H' S' I' → Same I I' → Rep K I' y v → R v H'
def dnL (R : List V → Hp → Prop) : QL := fun ys S' => ∀ vs H' I', Hd K L F H' S' I' → Same I I' → RepL K I' ys vs → R vs H'
def dnB (R : Bool → Hp → Prop) : QB := fun b S' => ∀ H' I', Hd K L F H' S' I' → Same I I' → R b H'
/-- an exception's own dict, new -/
def Xd (K : PySem.W.Frag) (F : Hp) (H' : Hp) (S' : Sto) (I' : Hp) (d : Addr) (fs : List Str) (xs : List Tr) : Prop := ∃ vs, H' d = some (.xd (fs.zip vs)) ∧ fs.length = xs.length ∧ RepL K I' xs vs ∧ I' d = none ∧ S' d = none ∧ F d = none
def dnX (W : WX) (σ : L2.St) : QX := fun c fs xs S' => ∀ d H' I', Hd K L F H' S' I' → Same I I' → Xd K F H' S' I' d fs xs → W c (some d) σ H'
def dnS (R : L2.St → Hp → Prop) : QS := fun ρ S' => ∀ σ' H' I', Hd K L F H' S' I' → Same I I' → Slots K I' σ' ρ → R σ' H'
def dnXS (W : WX) : XS := fun c fs xs ρ S' => ∀ d σ' H' I', Hd K L F H' S' I' → Same I I' → Slots K I' σ' ρ → Xd K F H' S' I' d fs xs → W c (some d) σ' H'
def dnD (D : L2.Ends) : UEnds := ⟨dnS K L F I D.nx, dnV K L F I D.rt, dnS K L F I D.bk, dnS K L F I D.ct⟩
end
section
variable {K : PySem.W.Frag} {L : Lk} {F I I1 : Hp}
theorem dnV_up {R : VK} (s : Same I I1) : ∀ y S, dnV K L F I R y S → dnV K L F I1 R y S := fun y S h v H' I' hd s' r => h v H' I' hd (s.trans s') r
theorem dnL_up {R : List V → Hp → Prop} (s : Same I I1) : ∀ y S, dnL K L F I R y S → dnL K L F I1 R y S := fun y S h v H' I' hd s' r => h v H' I' hd (s.trans s') r
theorem dnB_up {R : Bool → Hp → Prop} (s : Same I I1) : ∀ y S, dnB K L F I R y S → dnB K L F I1 R y S := fun y S h H' I' hd s' => h H' I' hd (s.trans s')
theorem dnX_up {W : WX} {σ : L2.St} (s : Same I I1) : ∀ c fs xs S, dnX K L F I W σ c fs xs S → dnX K L F I1 W σ c fs xs S := fun c fs xs S h d H' I' hd s' r => h d H' I' hd (s.trans s') r
theorem dnS_up {R : L2.St → Hp → Prop} (s : Same I I1) : ∀ y S, dnS K L F I R y S → dnS K L F I1 R y S := fun y S h v H' I' hd s' r => h v H' I' hd (s.trans s') r
theorem dnXS_up {W : WX} (s : Same I I1) : ∀ c fs xs ρ S, dnXS K L F I W c fs xs ρ S → dnXS K L F I1 W c fs xs ρ S := fun c fs xs ρ S h d σ' H' I' hd s' r z => h d σ' H' I' hd (s.trans s') r z
/-- an expression's exception, at the slots as they stand -/
theorem dnXS_at {W : WX} {σ : L2.St} {ρ : Rho} (sl : Slots K I σ ρ) : ∀ c fs xs S, dnXS K L F I W c fs xs ρ S → dnX K L F I W σ c fs xs S := fun c fs xs S h d H' I' hd s' r => h d σ H' I' hd s' (sl.mono s') r
end
def ULe (D D' : UEnds) : Prop := (∀ ρ S, D.nx ρ S → D'.nx ρ S) ∧ (∀ y S, D.rt y S → D'.rt y S) ∧ (∀ ρ S, D.bk ρ S → D'.bk ρ S) ∧ (∀ ρ S, D.ct ρ S → D'.ct ρ S)
theorem dnD_up {K : PySem.W.Frag} {L : Lk} {F I I1 : Hp} {D : L2.Ends} (s : Same I I1) : ULe (dnD K L F I D) (dnD K L F I1 D) := ⟨dnS_up s, dnV_up s, dnS_up s, dnS_up s⟩
theorem ULe.refl (D : UEnds) : ULe D D := ⟨fun _ _ h => h, fun _ _ h => h, fun _ _ h => h, fun _ _ h => h⟩
def XLe (X X' : QX) : Prop := ∀ c fs xs S, X c fs xs S → X' c fs xs S
def XSLe (X X' : XS) : Prop := ∀ c fs xs ρ S, X c fs xs ρ S → X' c fs xs ρ S
def atR (X : XS) (ρ : Rho) : QX := fun c fs xs S => X c fs xs ρ S
def MonoE (t : UE) : Prop := ∀ ρ S Q Q' X X', (∀ y S, Q y S → Q' y S) → XLe X X' → t ρ S Q X → t ρ S Q' X'
def MonoA (t : UA) : Prop := ∀ ρ S Q Q' X X', (∀ y S, Q y S → Q' y S) → XLe X X' → t ρ S Q X → t ρ S Q' X'
def MonoT (t : UT) : Prop := ∀ ρ S Q Q' X X', (∀ y S, Q y S → Q' y S) → XLe X X' → t ρ S Q X → t ρ S Q' X'
def MonoS (t : US) : Prop := ∀ D D' X X' ρ S, ULe D D' → XSLe X X' → t D X ρ S → t D' X' ρ S
def MonoG (t : UG) : Prop := ∀ x ρ S (Q Q' : QS), (∀ ρ S, Q ρ S → Q' ρ S) → t x ρ S Q → t x ρ S Q'
def MonoGs (t : UGs) : Prop := ∀ x ρ S (Q Q' : QS), (∀ ρ S, Q ρ S → Q' ρ S) → t x ρ S Q → t x ρ S Q'
def MonoI (t : UI) : Prop := ∀ ρ S (Q Q' : Walk → Sto → Prop) X X', (∀ y S, Q y S → Q' y S) → XLe X X' → t ρ S Q X → t ρ S Q' X'
def lE (K : PySem.W.Frag) (W : WX) (t : UE) : TE := fun σ H R => ∃ L F S I ρ, Hd K L F H S I ∧ Slots K I σ ρ ∧ t ρ S (dnV K L F I R) (dnX K L F I W σ)
def lA (K : PySem.W.Frag) (W : WX) (t : UA) : TA := fun σ H R => ∃ L F S I ρ, Hd K L F H S I ∧ Slots K I σ ρ ∧ t ρ S (dnL K L F I R) (dnX K L F I W σ)
def lT (K : PySem.W.Frag) (W : WX) (t : UT) : TT := fun σ H R => ∃ L F S I ρ, Hd K L F H S I ∧ Slots K I σ ρ ∧ t ρ S (dnB K L F I R) (dnX K L F I W σ)
def lS (K : PySem.W.Frag) (W : WX) (t : US) : TS := fun D σ H => ∃ L F S I ρ, Hd K L F H S I ∧ Slots K I σ ρ ∧ t (dnD K L F I D) (dnXS K L F I W) ρ S
def lG (K : PySem.W.Frag) (t : UG) : TG := fun v σ H R => ∃ L F S I ρ x, Hd K L F H S I ∧ Slots K I σ ρ ∧ Rep K I x v ∧ t x ρ S (dnS K L F I R)
def lGs (K : PySem.W.Frag) (t : UGs) : TGs := fun vs σ H R => ∃ L F S I ρ xs, Hd K L F H S I ∧ Slots K I σ ρ ∧ RepL K I xs vs ∧ t xs ρ S (dnS K L F I R)
/-- an iterator yields the items of a walk -/
structure ItRep (K : PySem.W.Frag) (L : Lk) (I : Hp) (J : It) (wk : Walk) : Prop where
  go : ∀ F i H S I', Hd K L F H S I' → Same I I' → wk.ok S → i < wk.xs.length → J.go i H
  stop : ∀ F i H S I', Hd K L F H S I' → Same I I' → wk.ok S → i = wk.xs.length → J.stop i H
  yld : ∀ F i H S I' v H' x, Hd K L F H S I' → Same I I' → wk.ok S → wk.xs[i]? = some x → J.yld i H v H' → ∃ I'', Hd K L F H' S I'' ∧ Same I' I'' ∧ Rep K I'' x v
def lI (K : PySem.W.Frag) (W : WX) (t : UI) : TI := fun σ H R => ∃ L F S I ρ, Hd K L F H S I ∧ Slots K I σ ρ ∧ t ρ S (fun wk S' => ∀ J H' I', Hd K L F H' S' I' → Same I I' → ItRep K L I' J wk → R J H') (dnX K L F I W σ)
structure TPE (X : Cx) (W : WX) (e : Expr) (t : UE) : Prop where
  pe : PE X e (lE X.K W t)
  mono : MonoE t
structure TPA (X : Cx) (W : WX) (es : List Expr) (t : UA) : Prop where
  pe : PA X es (lA X.K W t)
  mono : MonoA t
structure TPT (X : Cx) (W : WX) (e : Expr) (t : UT) : Prop where
  pe : PT X e (lT X.K W t)
  mono : MonoT t
structure TPW (X : Cx) (W : WX) (e : Expr) (t : UT) : Prop where
  pe : PW X e (lT X.K W t)
  mono : MonoT t
structure TPS (X : Cx) (W : WX) (s : Stmt) (t : US) : Prop where
  pe : PS X s (lS X.K W t)
  mono : MonoS t
structure TPSs (X : Cx) (W : WX) (s : List Stmt) (t : US) : Prop where
  pe : PSs X s (lS X.K W t)
  mono : MonoS t
structure TPG (X : Cx) (e : Expr) (t : UG) : Prop where
  pe : PG X e (lG X.K t)
  mono : MonoG t
structure TPGs (X : Cx) (e : List Expr) (t : UGs) : Prop where
  pe : PGs X e (lGs X.K t)
  mono : MonoGs t
structure TPI (X : Cx) (W : WX) (tg e : Expr) (t : UI) : Prop where
  pe : PI X tg e (lI X.K W t)
  mono : MonoI t
section
variable {X : Cx}
theorem wkE {e : Expr} {t t' : TE} (h : PE X e t) (w : ∀ σ H Q, t' σ H Q → t σ H Q) : PE X e t' := ⟨fun pins s σ H Q I q => h.run pins s σ H Q I (w _ _ _ q)⟩
theorem wkA {e : List Expr} {t t' : TA} (h : PA X e t) (w : ∀ σ H Q, t' σ H Q → t σ H Q) : PA X e t' := ⟨fun pos pins s σ H Q I q => h.run pos pins s σ H Q I (w _ _ _ q)⟩
theorem wkT {e : Expr} {t t' : TT} (h : PT X e t) (w : ∀ σ H Q, t' σ H Q → t σ H Q) : PT X e t' := ⟨fun pins s σ H Q I q => h.run pins s σ H Q I (w _ _ _ q)⟩
theorem wkW {e : Expr} {t t' : TT} (h : PW X e t) (w : ∀ σ H Q, t' σ H Q → t σ H Q) : PW X e t' := ⟨fun wh pins s σ H Q I q => h.run wh pins s σ H Q I (w _ _ _ q)⟩
theorem wkS {e : Stmt} {t t' : TS} (h : PS X e t) (w : ∀ D σ H, t' D σ H → t D σ H) : PS X e t' := ⟨fun pins s σ H D I q => h.run pins s σ H D I (w _ _ _ q)⟩
theorem wkSs {e : List Stmt} {t t' : TS} (h : PSs X e t) (w : ∀ D σ H, t' D σ H → t D σ H) : PSs X e t' := ⟨fun pins s σ H D I q => h.run pins s σ H D I (w _ _ _ q)⟩
theorem wkG {e : Expr} {t t' : TG} (h : PG X e t) (w : ∀ v σ H Q, t' v σ H Q → t v σ H Q) : PG X e t' := ⟨fun pins s σ H v u Q I r q => h.run pins s σ H v u Q I r (w _ _ _ _ q)⟩
theorem wkGs {e : List Expr} {t t' : TGs} (h : PGs X e t) (w : ∀ v σ H Q, t' v σ H Q → t v σ H Q) : PGs X e t' := ⟨fun pins s σ H v u Q I r q => h.run pins s σ H v u Q I r (w _ _ _ _ q)⟩
theorem wkI {tg e : Expr} {t t' : TI} (h : PI X tg e t) (w : ∀ σ H R, t' σ H R → t σ H R) : PI X tg e t' := ⟨fun pins s σ H R I q => h.run pins s σ H R I (w _ _ _ q)⟩
end
section
variable {X : Cx} {W : WX} {a b e : Expr} {es : List Expr} {ta tb te : UE} {pos : Pos}
/-- to go on behind an expression -/
theorem lE_then {K : PySem.W.Frag} {L : Lk} {F H I : Hp} {S : Sto} {ρ : Rho} {σ : L2.St} {R : VK} {Q : QV} {X0 : QX} (m : MonoE ta) (hd : Hd K L F H S I) (sl : Slots K I σ ρ) (h : ta ρ S Q X0) (hx : XLe X0 (dnX K L F I W σ))
    (k : ∀ y S' v H' I', Q y S' → Hd K L F H' S' I' → Same I I' → Slots K I' σ ρ → Rep K I' y v → R v H') : lE K W ta σ H R :=
  ⟨L, F, S, I, ρ, hd, sl, m _ _ _ _ _ _ (fun y S' q v H' I' h1 s r => k y S' v H' I' q h1 s (sl.mono s) r) hx h⟩
theorem lA_then {K : PySem.W.Frag} {L : Lk} {F H I : Hp} {S : Sto} {ρ : Rho} {σ : L2.St} {R : List V → Hp → Prop} {Q : QL} {X0 : QX} {tr : UA} (m : MonoA tr) (hd : Hd K L F H S I) (sl : Slots K I σ ρ) (h : tr ρ S Q X0) (hx : XLe X0 (dnX K L F I W σ))
    (k : ∀ y S' v H' I', Q y S' → Hd K L F H' S' I' → Same I I' → Slots K I' σ ρ → RepL K I' y v → R v H') : lA K W tr σ H R :=
  ⟨L, F, S, I, ρ, hd, sl, m _ _ _ _ _ _ (fun y S' q v H' I' h1 s r => k y S' v H' I' q h1 s (sl.mono s) r) hx h⟩
theorem lT_then {K : PySem.W.Frag} {L : Lk} {F H I : Hp} {S : Sto} {ρ : Rho} {σ : L2.St} {R : Bool → Hp → Prop} {Q : QB} {X0 : QX} {tt : UT} (m : MonoT tt) (hd : Hd K L F H S I) (sl : Slots K I σ ρ) (h : tt ρ S Q X0) (hx : XLe X0 (dnX K L F I W σ))
    (k : ∀ b S' H' I', Q b S' → Hd K L F H' S' I' → Same I I' → Slots K I' σ ρ → R b H') : lT K W tt σ H R :=
  ⟨L, F, S, I, ρ, hd, sl, m _ _ _ _ _ _ (fun y S' q H' I' h1 s => k y S' H' I' q h1 s (sl.mono s)) hx h⟩
theorem lS_then {K : PySem.W.Frag} {L : Lk} {F H I : Hp} {S : Sto} {ρ : Rho} {σ : L2.St} {D : L2.Ends} {D0 : UEnds} {X0 : XS} {us : US} (m : MonoS us) (hd : Hd K L F H S I) (sl : Slots K I σ ρ) (h : us D0 X0 ρ S) (hD : ULe D0 (dnD K L F I D)) (hx : XSLe X0 (dnXS K L F I W)) : lS K W us D σ H :=
  ⟨L, F, S, I, ρ, hd, sl, m _ _ _ _ _ _ hD hx h⟩
/-! ### names, constants -/
def uVar (i : Nat) : UE := fun ρ S Q _ => ∃ x : Tr, ρ[i]? = some (some x) ∧ Q x S
def uC (x : Tr) : UE := fun _ S Q _ => Q x S
theorem mono_var (i : Nat) : MonoE (uVar i) := fun _ _ _ _ _ _ hQ _ ⟨x, e, q⟩ => ⟨x, e, hQ _ _ q⟩
theorem mono_c (x : Tr) : MonoE (uC x) := fun _ _ _ _ _ _ hQ _ q => hQ _ _ q
theorem e_var (i : Nat) {x : Str} (hN : X.N[i]? = some x := by rfl) (hv : Vis X.env.scope x := by first | exact Or.inl rfl | exact Or.inr (Or.inl rfl) | exact Or.inr (Or.inr rfl)) (hd : (x == ("__debug__" : Str)) = false := by decide)
    (hcd : (x == ("__classdict__" : Str)) = false := by decide) : TPE X W (.Name x pos) (uVar i) :=
  ⟨wkE (pv i hN hv hd hcd) fun σ H R ⟨L, F, S, I, ρ, h, sl, y, ey, q⟩ => by
    obtain ⟨v, ev, r⟩ := sl.2 i y ey
    exact ⟨v, ev, q v H I h (Same.refl _) r⟩, mono_var i⟩
theorem e_const {v : V} {y : Tr} (h : PE X e (tC v)) (hy : ∀ I, Rep X.K I y v) : TPE X W e (uC y) :=
  ⟨wkE h fun σ H R ⟨L, F, S, I, ρ, hd, sl, q⟩ => q v H I hd (Same.refl _) (hy I), mono_c y⟩
theorem e_int {n : Int} {k : Nat} : TPE X W (.Constant (.int n) k pos) (uC (.int n)) := e_const pe_int fun _ => rfl
theorem e_bl {b : Bool} {k : Nat} : TPE X W (.Constant (.bool b) k pos) (uC (.bl b)) := e_const pe_bl fun _ => rfl
theorem e_non {k : Nat} : TPE X W (.Constant .none k pos) (uC .non) := e_const pe_non fun _ => rfl
theorem e_str {z : Str} {k : Nat} : TPE X W (.Constant (.str z) k pos) (uC (.str z)) := e_const pe_str fun _ => rfl
/-! ### two in a row -/
def u2 (ta tb : UE) (k : Tr → Tr → Sto → QV → QX → Prop) : UE := fun ρ S Q X => ta ρ S (fun x S1 => tb ρ S1 (fun y S2 => k x y S2 Q X) X) X
/-- an operation by what it gives; the cells stay -/
def uOp (g : Tr → Tr → Tr → Prop) (ta tb : UE) : UE := fun ρ S Q X => ta ρ S (fun x S1 => tb ρ S1 (fun y S2 => ∃ z, g (vw S2 x) (vw S2 y) z ∧ Q z S2) X) X
def uUn (g : Tr → Tr → Prop) (ta : UE) : UE := fun ρ S Q X => ta ρ S (fun x S1 => ∃ z, g (vw S1 x) z ∧ Q z S1) X
theorem mono_op {g : Tr → Tr → Tr → Prop} (ha : MonoE ta) (hb : MonoE tb) : MonoE (uOp g ta tb) := fun ρ S Q Q' X X' hQ hX h =>
  ha _ _ _ _ _ _ (fun x S1 h1 => hb _ _ _ _ _ _ (fun y S2 ⟨z, hg, q⟩ => ⟨z, hg, hQ _ _ q⟩) hX h1) hX h
theorem mono_un {g : Tr → Tr → Prop} (ha : MonoE ta) : MonoE (uUn g ta) := fun ρ S Q Q' X X' hQ hX h =>
  ha _ _ _ _ _ _ (fun x S1 ⟨z, hg, q⟩ => ⟨z, hg, hQ _ _ q⟩) hX h
/-- an operator, over trees -/
def OpT (K : PySem.W.Frag) (r : R2) (g : Tr → Tr → Tr → Prop) : Prop := ∀ {L : Lk} {F H : Hp} {S : Sto} {I : Hp} {x y z : Tr} {v w : V} {R : VK}, Hd K L F H S I → Rep K I x v → Rep K I y w → g (vw S x) (vw S y) z →
  (∀ v' H' I', Hd K L F H' S I' → Same I I' → Rep K I' z v' → R v' H') → r v w H R
def UnT (K : PySem.W.Frag) (r : V → Hp → VK → Prop) (g : Tr → Tr → Prop) : Prop := ∀ {L : Lk} {F H : Hp} {S : Sto} {I : Hp} {x z : Tr} {v : V} {R : VK}, Hd K L F H S I → Rep K I x v → g (vw S x) z →
  (∀ v' H' I', Hd K L F H' S I' → Same I I' → Rep K I' z v' → R v' H') → r v H R
theorem lOp {r : R2} {g : Tr → Tr → Tr → Prop} (s : OpT X.K r g) (ma : MonoE ta) (mb : MonoE tb) : ∀ σ H R, lE X.K W (uOp g ta tb) σ H R → tOp r (lE X.K W ta) (lE X.K W tb) σ H R := fun σ H R ⟨L, F, S, I, ρ, hd, sl, h⟩ =>
  lE_then ma hd sl h (fun _ _ _ _ h => h) fun x S1 v H1 I1 q1 hd1 s1 sl1 rx => lE_then mb hd1 sl1 q1 (dnX_up s1) fun y S2 w H2 I2 ⟨z, hg, q2⟩ hd2 s2 sl2 ry =>
    s hd2 (rx.mono s2) ry hg fun v' H' I' hd' s' r' => q2 v' H' I' hd' ((s1.trans s2).trans s') r'
theorem e_op {op : Operator} {r : R2} {g : Tr → Tr → Tr → Prop} (ho : OpR X (binaryOp op) r) (s : OpT X.K r g) (ha : TPE X W a ta) (hb : TPE X W b tb) : TPE X W (.BinOp a op b pos) (uOp g ta tb) :=
  ⟨wkE (pe_op ho ha.pe hb.pe) (lOp s ha.mono hb.mono), mono_op ha.mono hb.mono⟩
theorem e_cmp {op : CmpOp} {r : R2} {g : Tr → Tr → Tr → Prop} (ho : OpR X (compareOp op) r) (s : OpT X.K r g) (ha : TPE X W a ta) (hb : TPE X W b tb) (hm : behindInMarks op b = false) : TPE X W (.Compare a [op] [b] pos) (uOp g ta tb) :=
  ⟨wkE (pe_cmpR ho ha.pe hb.pe hm) (lOp s ha.mono hb.mono), mono_op ha.mono hb.mono⟩
theorem e_un {op : UnaryOp} {r : V → Hp → VK → Prop} {g : Tr → Tr → Prop} (ho : UnR X (unaryOp op) r) (s : UnT X.K r g) (ha : TPE X W a ta) : TPE X W (.UnaryOp op a pos) (uUn g ta) :=
  ⟨wkE (pe_un ho ha.pe) fun σ H R ⟨L, F, S, I, ρ, hd, sl, h⟩ => lE_then ha.mono hd sl h (fun _ _ _ _ h => h) fun x S1 v H1 I1 ⟨z, hg, q⟩ hd1 s1 sl1 rx =>
    s hd1 rx hg fun v' H' I' hd' s' r' => q v' H' I' hd' (s1.trans s') r', mono_un ha.mono⟩
theorem e_ix {r : R2} {g : Tr → Tr → Tr → Prop} (ho : IxR X r) (s : OpT X.K r g) (ha : TPE X W a ta) (hb : TPE X W b tb) (hs : PlainIx b) : TPE X W (.Subscript a b pos) (uOp g ta tb) :=
  ⟨wkE (pe_ix ho ha.pe hb.pe hs) (lOp s ha.mono hb.mono), mono_op ha.mono hb.mono⟩
/-! ### tests -/
def uB (te : UE) : UT := fun ρ S Q X => te ρ S (fun x S1 => ∃ k, x = .bl k ∧ Q k S1) X
theorem mono_b (h : MonoE te) : MonoT (uB te) := fun ρ S Q Q' X X' hQ hX q => h _ _ _ _ _ _ (fun x S1 ⟨k, e, q⟩ => ⟨k, e, hQ _ _ q⟩) hX q
theorem lB (m : MonoE te) : ∀ σ H R, lT X.K W (uB te) σ H R → lE X.K W te σ H (fun x H1 => ∃ k, x = .bl k ∧ R k H1) := fun σ H R ⟨L, F, S, I, ρ, hd, sl, h⟩ =>
  lE_then m hd sl h (fun _ _ _ _ h => h) fun x S1 v H1 I1 ⟨k, e, q⟩ hd1 s1 sl1 r => by subst e; exact ⟨k, r, q H1 I1 hd1 s1⟩
theorem t_val (h : TPE X W e te) (he : ∀ whole, isTrue e X.env whole = (do let v ← whole; standAt e.pos; holding [v] (truthy v)) := by intro _; rfl) : TPT X W e (uB te) :=
  ⟨wkT (pt_val h.pe he) (lB h.mono), mono_b h.mono⟩
theorem t_cmp {op : CmpOp} {r : R2} {g : Tr → Tr → Tr → Prop} (ho : OpR X (compareOp op) r) (s : OpT X.K r g) (ha : TPE X W a ta) (hb : TPE X W b tb) (hm : behindInMarks op b = false) : TPT X W (.Compare a [op] [b] pos) (uB (uOp g ta tb)) :=
  ⟨wkT (pt_cmpR ho ha.pe hb.pe hm) fun σ H R ⟨L, F, S, I, ρ, hd, sl, h⟩ => lOp s ha.mono hb.mono σ H _ (by
    obtain ⟨L', F', S', I', ρ', h1, h2, h3⟩ := lB (X := X) (W := W) (mono_op ha.mono hb.mono) σ H R ⟨L, F, S, I, ρ, hd, sl, h⟩
    exact ⟨L', F', S', I', ρ', h1, h2, h3⟩), mono_b (mono_op ha.mono hb.mono)⟩
def uAnd (t u : UT) : UT := fun ρ S Q X => t ρ S (fun c S1 => if c = true then u ρ S1 Q X else Q false S1) X
def uOr (t u : UT) : UT := fun ρ S Q X => t ρ S (fun c S1 => if c = true then Q true S1 else u ρ S1 Q X) X
def uNot (t : UT) : UT := fun ρ S Q X => t ρ S (fun c S1 => Q (!c) S1) X
section
variable {t u : UT} {rest : List Expr}
theorem mono_and (ht : MonoT t) (hu : MonoT u) : MonoT (uAnd t u) := fun ρ S Q Q' X X' hQ hX h => ht _ _ _ _ _ _ (fun c S1 h1 => by
  cases c with
  | true => rw [if_pos rfl] at h1 ⊢; exact hu _ _ _ _ _ _ hQ hX h1
  | false => rw [if_neg Bool.false_ne_true] at h1 ⊢; exact hQ _ _ h1) hX h
theorem mono_or (ht : MonoT t) (hu : MonoT u) : MonoT (uOr t u) := fun ρ S Q Q' X X' hQ hX h => ht _ _ _ _ _ _ (fun c S1 h1 => by
  cases c with
  | true => rw [if_pos rfl] at h1 ⊢; exact hQ _ _ h1
  | false => rw [if_neg Bool.false_ne_true] at h1 ⊢; exact hu _ _ _ _ _ _ hQ hX h1) hX h
theorem mono_not (ht : MonoT t) : MonoT (uNot t) := fun ρ S Q Q' X X' hQ hX h => ht _ _ _ _ _ _ (fun c S1 h1 => hQ _ _ h1) hX h
theorem w_and1 (ha : TPT X W a t) : TPW X W (.BoolOp .And [a] pos) t := ⟨pw_and1 ha.pe, ha.mono⟩
theorem w_or1 (ha : TPT X W a t) : TPW X W (.BoolOp .Or [a] pos) t := ⟨pw_or1 ha.pe, ha.mono⟩
theorem w_and (ha : TPT X W a t) (hb : TPW X W (.BoolOp .And (b :: rest) pos) u) : TPW X W (.BoolOp .And (a :: b :: rest) pos) (uAnd t u) :=
  ⟨wkW (pw_and ha.pe hb.pe) fun σ H R ⟨L, F, S, I, ρ, hd, sl, h⟩ => lT_then ha.mono hd sl h (fun _ _ _ _ h => h) fun c S1 H1 I1 q hd1 s1 sl1 => by
    cases c with
    | true => rw [if_pos rfl] at q ⊢; exact lT_then hb.mono hd1 sl1 q (dnX_up s1) fun c2 S2 H2 I2 q2 hd2 s2 sl2 => q2 H2 I2 hd2 (s1.trans s2)
    | false => rw [if_neg Bool.false_ne_true] at q ⊢; exact q H1 I1 hd1 s1, mono_and ha.mono hb.mono⟩
theorem w_or (ha : TPT X W a t) (hb : TPW X W (.BoolOp .Or (b :: rest) pos) u) : TPW X W (.BoolOp .Or (a :: b :: rest) pos) (uOr t u) :=
  ⟨wkW (pw_or ha.pe hb.pe) fun σ H R ⟨L, F, S, I, ρ, hd, sl, h⟩ => lT_then ha.mono hd sl h (fun _ _ _ _ h => h) fun c S1 H1 I1 q hd1 s1 sl1 => by
    cases c with
    | true => rw [if_pos rfl] at q ⊢; exact q H1 I1 hd1 s1
    | false => rw [if_neg Bool.false_ne_true] at q ⊢; exact lT_then hb.mono hd1 sl1 q (dnX_up s1) fun c2 S2 H2 I2 q2 hd2 s2 sl2 => q2 H2 I2 hd2 (s1.trans s2), mono_or ha.mono hb.mono⟩
theorem TPW.pt (h : TPW X W e t) : TPT X W e t := ⟨h.pe.pt, h.mono⟩
theorem t_not (ha : TPT X W a t) : TPT X W (.UnaryOp .Not a pos) (uNot t) :=
  ⟨wkT (pt_not ha.pe) fun σ H R ⟨L, F, S, I, ρ, hd, sl, h⟩ => lT_then ha.mono hd sl h (fun _ _ _ _ h => h) fun c S1 H1 I1 q hd1 s1 sl1 => q H1 I1 hd1 s1, mono_not ha.mono⟩
/-- and, or, not as values of truths -/
def uAndV (ta tb : UE) : UE := fun ρ S Q X => ta ρ S (fun x S1 => ∃ c, x = .bl c ∧ if c = true then tb ρ S1 Q X else Q (.bl false) S1) X
def uOrV (ta tb : UE) : UE := fun ρ S Q X => ta ρ S (fun x S1 => ∃ c, x = .bl c ∧ if c = true then Q (.bl true) S1 else tb ρ S1 Q X) X
def uNotV (ta : UE) : UE := fun ρ S Q X => ta ρ S (fun x S1 => ∃ c, x = .bl c ∧ Q (.bl (!c)) S1) X
theorem e_one {op} (h : TPE X W a ta) : TPE X W (.BoolOp op [a] pos) ta := ⟨pe_one h.pe, h.mono⟩
theorem e_and (ha : TPE X W a ta) (hb : TPE X W (.BoolOp .And (b :: rest) pos) tb) : TPE X W (.BoolOp .And (a :: b :: rest) pos) (uAndV ta tb) :=
  ⟨wkE (pe_and ha.pe hb.pe) fun σ H R ⟨L, F, S, I, ρ, hd, sl, h⟩ => lE_then ha.mono hd sl h (fun _ _ _ _ h => h) fun x S1 v H1 I1 ⟨c, e, q⟩ hd1 s1 sl1 r => by
    subst e
    refine ⟨c, r, ?_⟩
    cases c with
    | true => rw [if_pos rfl] at q ⊢; exact lE_then hb.mono hd1 sl1 q (dnX_up s1) fun y S2 w H2 I2 q2 hd2 s2 sl2 r2 => q2 w H2 I2 hd2 (s1.trans s2) r2
    | false => rw [if_neg Bool.false_ne_true] at q ⊢; exact q _ H1 I1 hd1 s1 rfl, fun ρ S Q Q' X X' hQ hX h => ha.mono _ _ _ _ _ _ (fun x S1 ⟨c, e, q⟩ => ⟨c, e, by
      cases c with
      | true => rw [if_pos rfl] at q ⊢; exact hb.mono _ _ _ _ _ _ hQ hX q
      | false => rw [if_neg Bool.false_ne_true] at q ⊢; exact hQ _ _ q⟩) hX h⟩
theorem e_or (ha : TPE X W a ta) (hb : TPE X W (.BoolOp .Or (b :: rest) pos) tb) : TPE X W (.BoolOp .Or (a :: b :: rest) pos) (uOrV ta tb) :=
  ⟨wkE (pe_or ha.pe hb.pe) fun σ H R ⟨L, F, S, I, ρ, hd, sl, h⟩ => lE_then ha.mono hd sl h (fun _ _ _ _ h => h) fun x S1 v H1 I1 ⟨c, e, q⟩ hd1 s1 sl1 r => by
    subst e
    refine ⟨c, r, ?_⟩
    cases c with
    | true => rw [if_pos rfl] at q ⊢; exact q _ H1 I1 hd1 s1 rfl
    | false => rw [if_neg Bool.false_ne_true] at q ⊢; exact lE_then hb.mono hd1 sl1 q (dnX_up s1) fun y S2 w H2 I2 q2 hd2 s2 sl2 r2 => q2 w H2 I2 hd2 (s1.trans s2) r2, fun ρ S Q Q' X X' hQ hX h => ha.mono _ _ _ _ _ _ (fun x S1 ⟨c, e, q⟩ => ⟨c, e, by
      cases c with
      | true => rw [if_pos rfl] at q ⊢; exact hQ _ _ q
      | false => rw [if_neg Bool.false_ne_true] at q ⊢; exact hb.mono _ _ _ _ _ _ hQ hX q⟩) hX h⟩
theorem e_not (ha : TPE X W a ta) : TPE X W (.UnaryOp .Not a pos) (uNotV ta) :=
  ⟨wkE (pe_not ha.pe) fun σ H R ⟨L, F, S, I, ρ, hd, sl, h⟩ => lE_then ha.mono hd sl h (fun _ _ _ _ h => h) fun x S1 v H1 I1 ⟨c, e, q⟩ hd1 s1 sl1 r => by
    subst e
    exact ⟨c, r, q _ H1 I1 hd1 s1 rfl⟩, fun ρ S Q Q' X X' hQ hX h => ha.mono _ _ _ _ _ _ (fun x S1 ⟨c, e, q⟩ => ⟨c, e, hQ _ _ q⟩) hX h⟩
def uIf (t : UT) (ta tb : UE) : UE := fun ρ S Q X => t ρ S (fun c S1 => if c = true then ta ρ S1 Q X else tb ρ S1 Q X) X
theorem e_ifExp {c : Expr} (hc : TPT X W c t) (ha : TPE X W a ta) (hb : TPE X W b tb) : TPE X W (.IfExp c a b pos) (uIf t ta tb) :=
  ⟨wkE (pe_ifExp hc.pe ha.pe hb.pe) fun σ H R ⟨L, F, S, I, ρ, hd, sl, h⟩ => lT_then hc.mono hd sl h (fun _ _ _ _ h => h) fun c S1 H1 I1 q hd1 s1 sl1 => by
    cases c with
    | true => rw [if_pos rfl] at q ⊢; exact lE_then ha.mono hd1 sl1 q (dnX_up s1) fun y S2 w H2 I2 q2 hd2 s2 sl2 r2 => q2 w H2 I2 hd2 (s1.trans s2) r2
    | false => rw [if_neg Bool.false_ne_true] at q ⊢; exact lE_then hb.mono hd1 sl1 q (dnX_up s1) fun y S2 w H2 I2 q2 hd2 s2 sl2 r2 => q2 w H2 I2 hd2 (s1.trans s2) r2, fun ρ S Q Q' X X' hQ hX h => hc.mono _ _ _ _ _ _ (fun c S1 q => by
      cases c with
      | true => rw [if_pos rfl] at q ⊢; exact ha.mono _ _ _ _ _ _ hQ hX q
      | false => rw [if_neg Bool.false_ne_true] at q ⊢; exact hb.mono _ _ _ _ _ _ hQ hX q) hX h⟩
end
/-! ### arguments, displays, calls of built-ins -/
def uNil : UA := fun _ S Q _ => Q [] S
def uCons (ta : UE) (tr : UA) : UA := fun ρ S Q X => ta ρ S (fun x S1 => tr ρ S1 (fun xs S2 => Q (x :: xs) S2) X) X
theorem a_nil : TPA X W [] uNil := ⟨wkA pa_nil fun σ H R ⟨L, F, S, I, ρ, hd, sl, h⟩ => h [] H I hd (Same.refl _) rfl, fun _ _ _ _ _ _ hQ _ h => hQ _ _ h⟩
theorem a_cons {tr : UA} (ha : TPE X W e te) (hr : TPA X W es tr) (hs : starEach (e :: es) X.env = (false, eval e X.env) :: starEach es X.env := by rfl) : TPA X W (e :: es) (uCons te tr) :=
  ⟨wkA (pa_cons ha.pe hr.pe hs) fun σ H R ⟨L, F, S, I, ρ, hd, sl, h⟩ => lE_then ha.mono hd sl h (fun _ _ _ _ h => h) fun x S1 v H1 I1 q hd1 s1 sl1 rx => lA_then hr.mono hd1 sl1 q (dnX_up s1) fun ys S2 ws H2 I2 q2 hd2 s2 sl2 ry =>
    q2 (v :: ws) H2 I2 hd2 (s1.trans s2) (.cons (rx.mono s2) ry), fun ρ S Q Q' X X' hQ hX h => ha.mono _ _ _ _ _ _ (fun x S1 q => hr.mono _ _ _ _ _ _ (fun xs S2 q => hQ _ _ q) hX q) hX h⟩
/-- a new list, a new tuple of the trees -/
def uTup (t : UA) : UE := fun ρ S Q X => t ρ S (fun xs S1 => xs.length ≤ sizeLine ∧ Q (.tup xs) S1) X
def uLst (t : UA) : UE := fun ρ S Q X => t ρ S (fun xs S1 => xs.length ≤ sizeLine ∧ Q (.lst xs) S1) X
/-- a new list that will change -/
def uLstC (t : UA) : UE := fun ρ S Q X => t ρ S (fun xs S1 => xs.length ≤ sizeLine ∧ ∀ p, S1 p = none → Q (.ref p) (put S1 p (.lst xs))) X
section
variable {tr : UA} {x1 : Nat}
theorem e_tup (h : TPA X W es tr) : TPE X W (.Tuple es x1 pos) (uTup tr) :=
  ⟨wkE (pe_tup h.pe) fun σ H R ⟨L, F, S, I, ρ, hd, sl, q⟩ => lA_then h.mono hd sl q (fun _ _ _ _ h => h) fun xs S1 vs H1 I1 ⟨z, q⟩ hd1 s1 sl1 r =>
    ⟨by rw [r.len]; exact z, fun p np => q _ _ _ (hd1.imm np) (s1.trans (upd_sub (hd1.freeI np))) ⟨p, vs, rfl, .inl (.inl upd_same), r.mono (upd_sub (hd1.freeI np))⟩⟩,
    fun ρ S Q Q' X X' hQ hX h' => h.mono _ _ _ _ _ _ (fun xs S1 ⟨z, q⟩ => ⟨z, hQ _ _ q⟩) hX h'⟩
theorem e_lst (h : TPA X W es tr) : TPE X W (.List es pos) (uLst tr) :=
  ⟨wkE (pe_lst h.pe) fun σ H R ⟨L, F, S, I, ρ, hd, sl, q⟩ => lA_then h.mono hd sl q (fun _ _ _ _ h => h) fun xs S1 vs H1 I1 ⟨z, q⟩ hd1 s1 sl1 r =>
    ⟨by rw [r.len]; exact z, fun p np => q _ _ _ (hd1.imm np) (s1.trans (upd_sub (hd1.freeI np))) ⟨p, vs, rfl, upd_same, r.mono (upd_sub (hd1.freeI np))⟩⟩,
    fun ρ S Q Q' X X' hQ hX h' => h.mono _ _ _ _ _ _ (fun xs S1 ⟨z, q⟩ => ⟨z, hQ _ _ q⟩) hX h'⟩
theorem e_lstC (h : TPA X W es tr) : TPE X W (.List es pos) (uLstC tr) :=
  ⟨wkE (pe_lst h.pe) fun σ H R ⟨L, F, S, I, ρ, hd, sl, q⟩ => lA_then h.mono hd sl q (fun _ _ _ _ h => h) fun xs S1 vs H1 I1 ⟨z, q⟩ hd1 s1 sl1 r =>
    ⟨by rw [r.len]; exact z, fun p np => q p (hd1.freeS np) _ _ _ (hd1.cell np ⟨vs, rfl, r⟩) s1 rfl⟩,
    fun ρ S Q Q' X X' hQ hX h' => h.mono _ _ _ _ _ _ (fun xs S1 ⟨z, q⟩ => ⟨z, fun p np => hQ _ _ (q p np)⟩) hX h'⟩
/-- a built-in by what it gives; the cells stay -/
def uCb (g : List Tr → Tr → Prop) (t : UA) : UE := fun ρ S Q X => t ρ S (fun xs S1 => ∃ z, g (xs.map (vw S1)) z ∧ Q z S1) X
theorem mono_cb {g : List Tr → Tr → Prop} (m : MonoA tr) : MonoE (uCb g tr) := fun ρ S Q Q' X X' hQ hX h => m _ _ _ _ _ _ (fun xs S1 ⟨z, hg, q⟩ => ⟨z, hg, hQ _ _ q⟩) hX h
def CallT (K : PySem.W.Frag) (r : List V → Hp → VK → Prop) (g : List Tr → Tr → Prop) : Prop := ∀ {L : Lk} {F H : Hp} {S : Sto} {I : Hp} {xs : List Tr} {z : Tr} {vs : List V} {R : VK}, Hd K L F H S I → RepL K I xs vs → g (xs.map (vw S)) z →
  (∀ v' H' I', Hd K L F H' S I' → Same I I' → Rep K I' z v' → R v' H') → r vs H R
theorem lCb {r : List V → Hp → VK → Prop} {g : List Tr → Tr → Prop} (s : CallT X.K r g) (m : MonoA tr) : ∀ σ H R, lE X.K W (uCb g tr) σ H R → tCB r (lA X.K W tr) σ H R := fun σ H R ⟨L, F, S, I, ρ, hd, sl, h⟩ =>
  lA_then m hd sl h (fun _ _ _ _ h => h) fun xs S1 vs H1 I1 ⟨z, hg, q⟩ hd1 s1 sl1 r => s hd1 r hg fun v' H' I' hd' s' r' => q v' H' I' hd' (s1.trans s') r'
theorem e_callB {id : String} {x : Str} {p : Pos} {r : List V → Hp → VK → Prop} {g : List Tr → Tr → Prop} (hc : CallR X (.builtin id) r) (s : CallT X.K r g) (hg : Gl X x) (hm : X.mg x = none) (hv : bootBuiltins x = some (.builtin id)) (ha : TPA X W (e :: es) tr) (hn : x ≠ "__name__" := by decide) (hdb : (x == ("__debug__" : Str)) = false := by decide)
    (he : starEach (e :: es) X.env = (false, eval e X.env) :: starEach es X.env := by rfl) (hpl : (backTo pos (starEach es X.env)).any (·.1) = false := by rfl) : TPE X W (.Call (.Name x p) (e :: es) [] pos) (uCb g tr) :=
  ⟨wkE (pe_callB hc hg hm hv ha.pe hn hdb he hpl) (lCb s ha.mono), mono_cb ha.mono⟩
theorem e_callTy {T : String} {x : Str} {p : Pos} {r : List V → Hp → VK → Prop} {g : List Tr → Tr → Prop} (hc : CallR X (.type T) r) (s : CallT X.K r g) (hg : Gl X x) (hm : X.mg x = none) (hv : bootBuiltins x = some (.type T)) (ha : TPA X W (e :: es) tr) (hn : x ≠ "__name__" := by decide) (hdb : (x == ("__debug__" : Str)) = false := by decide)
    (he : starEach (e :: es) X.env = (false, eval e X.env) :: starEach es X.env := by rfl) (hpl : (backTo pos (starEach es X.env)).any (·.1) = false := by rfl) : TPE X W (.Call (.Name x p) (e :: es) [] pos) (uCb g tr) :=
  ⟨wkE (pe_callTy hc hg hm hv ha.pe hn hdb he hpl) (lCb s ha.mono), mono_cb ha.mono⟩
end
end
end KQ
namespace KQ
open PySem PySem.Spec PyProof.Rows L2 TL KB
/-! ### targets of names -/
inductive Pat where
  | nm (i : Nat)
  | tp (ps : List Pat)
mutual
def patR : Pat → Tr → Rho → Option Rho
  | .nm i, x, ρ => some (ρ.set i (some x))
  | .tp ps, x, ρ => match x with
    | .tup xs => patsR ps xs ρ
    | _ => none
def patsR : List Pat → List Tr → Rho → Option Rho
  | [], xs, ρ => match xs with
    | [] => some ρ
    | _ => none
  | p :: ps, xs, ρ => match xs with
    | x :: xs => match patR p x ρ with
      | some ρ' => patsR ps xs ρ'
      | none => none
    | [] => none
end
mutual
def gPat (K : PySem.W.Frag) : Pat → TG
  | .nm i => gName i
  | .tp ps => gTup K ps.length (gPats K ps)
def gPats (K : PySem.W.Frag) : List Pat → TGs
  | [] => gNil
  | p :: ps => gCons (gPat K p) (gPats K ps)
end
mutual
def Pat.slots : Pat → List Nat
  | .nm i => [i]
  | .tp ps => patsSlots ps
def patsSlots : List Pat → List Nat
  | [] => []
  | p :: ps => p.slots ++ patsSlots ps
end
theorem wipe_at (σ : L2.St) (vs : List Nat) (i : Nat) : (wipe σ vs)[i]? = if i ∈ vs ∧ i < σ.length then some none else σ[i]? := by
  induction vs with
  | nil => simp [wipe]
  | cons v r ih =>
    show ((wipe σ r).set v none)[i]? = _
    by_cases h : v = i
    · subst h
      by_cases hl : v < σ.length
      · rw [List.getElem?_set_self (by rw [wipe_length]; exact hl), if_pos ⟨List.mem_cons_self .., hl⟩]
      · rw [if_neg (fun z => hl z.2), List.getElem?_eq_none (by rw [List.length_set, wipe_length]; omega), List.getElem?_eq_none (by omega)]
    · rw [List.getElem?_set_ne h, ih]
      by_cases hr : i ∈ r ∧ i < σ.length
      · rw [if_pos hr, if_pos ⟨List.mem_cons_of_mem _ hr.1, hr.2⟩]
      · rw [if_neg hr, if_neg (fun z => hr ⟨(List.mem_cons.mp z.1).resolve_left (fun e => h e.symm), z.2⟩)]
theorem wipe_set (σ : L2.St) {vs : List Nat} {i : Nat} {o : Option V} (h : i ∈ vs) : wipe (σ.set i o) vs = wipe σ vs := by
  apply List.ext_getElem?
  intro j
  rw [wipe_at, wipe_at, List.length_set]
  by_cases hj : j ∈ vs ∧ j < σ.length
  · rw [if_pos hj, if_pos hj]
  · rw [if_neg hj, if_neg hj]
    by_cases e : i = j
    · subst e
      have hl : ¬ i < σ.length := fun z => hj ⟨h, z⟩
      rw [List.getElem?_eq_none (by rw [List.length_set]; omega), List.getElem?_eq_none (by omega)]
    · rw [List.getElem?_set_ne e]
theorem wipe_wipe (σ : L2.St) (vs : List Nat) : wipe (wipe σ vs) vs = wipe σ vs := by
  apply List.ext_getElem?
  intro j
  rw [wipe_at, wipe_length]
  by_cases hj : j ∈ vs ∧ j < σ.length
  · rw [if_pos hj, wipe_at, if_pos hj]
  · rw [if_neg hj]
section
variable {K : PySem.W.Frag} {L : Lk} {F H I : Hp} {S : Sto}
mutual
theorem gPat_run (hd : Hd K L F H S I) : ∀ (p : Pat) {x : Tr} {v : V} {σ : L2.St} {ρ ρ2 : Rho} {Q : L2.St → Hp → Prop}, Rep K I x v → Slots K I σ ρ → patR p x ρ = some ρ2 →
    (∀ σ2, Slots K I σ2 ρ2 → (∀ vs, (∀ i ∈ p.slots, i ∈ vs) → wipe σ2 vs = wipe σ vs) → Q σ2 H) → gPat K p v σ H Q
  | .nm i, x, v, σ, ρ, ρ2, Q, r, sl, e, k => by
    have e' : some (ρ.set i (some x)) = some ρ2 := by simpa [patR] using e
    cases e'
    unfold gPat
    exact k _ (sl.set r) fun vs h => wipe_set σ (h i (by simp [Pat.slots]))
  | .tp ps, x, v, σ, ρ, ρ2, Q, r, sl, e, k => by
    unfold patR at e
    split at e
    · rename_i xs
      obtain ⟨a, vs, rfl, h1, h2⟩ := r
      unfold gPat
      have hl := gPats_len ps e
      exact ⟨a, vs, rfl, hd.sqT h1, by rw [h2.len, hl], gPats_run hd ps h2 sl e fun σ2 s2 w => k σ2 s2 fun vs h => w vs (by simpa [Pat.slots] using h)⟩
    · cases e
theorem gPats_run (hd : Hd K L F H S I) : ∀ (ps : List Pat) {xs : List Tr} {vs : List V} {σ : L2.St} {ρ ρ2 : Rho} {Q : L2.St → Hp → Prop}, RepL K I xs vs → Slots K I σ ρ → patsR ps xs ρ = some ρ2 →
    (∀ σ2, Slots K I σ2 ρ2 → (∀ vs, (∀ i ∈ patsSlots ps, i ∈ vs) → wipe σ2 vs = wipe σ vs) → Q σ2 H) → gPats K ps vs σ H Q
  | [], xs, vs, σ, ρ, ρ2, Q, r, sl, e, k => by
    unfold patsR at e
    split at e
    · cases e
      cases r
      unfold gPats
      exact ⟨rfl, k σ sl fun _ _ => rfl⟩
    · cases e
  | p :: ps, xs, vs, σ, ρ, ρ2, Q, r, sl, e, k => by
    unfold patsR at e
    split at e
    · rename_i x xs
      obtain ⟨v, ws, rfl, r1, r2⟩ := r
      split at e
      · rename_i ρ' e1
        unfold gPats
        refine ⟨v, ws, rfl, gPat_run hd p r1 sl e1 fun σ1 s1 w1 => gPats_run hd ps r2 s1 e fun σ2 s2 w2 => k σ2 s2 fun vs h => ?_⟩
        rw [w2 vs (fun i hi => h i (by simp [patsSlots, hi])), w1 vs (fun i hi => h i (by simp [patsSlots, hi]))]
      · cases e
    · cases e
theorem gPats_len : ∀ (ps : List Pat) {xs : List Tr} {ρ ρ2 : Rho}, patsR ps xs ρ = some ρ2 → xs.length = ps.length
  | [], xs, ρ, ρ2, e => by
    unfold patsR at e
    split at e
    · rfl
    · cases e
  | p :: ps, xs, ρ, ρ2, e => by
    unfold patsR at e
    split at e
    · rename_i x xs
      split at e
      · rename_i ρ' e1
        rw [List.length_cons, List.length_cons, gPats_len ps e]
      · cases e
    · cases e
end
end
/-! ### statements -/
section
variable {X : Cx} {W : WX} {a b e : Expr} {es : List Expr} {te : UE} {pos : Pos} {st : Stmt} {rest : List Stmt} {t u : US}
def uNext : US := fun D _ ρ S => D.nx ρ S
def uSeq (t u : US) : US := fun D X ρ S => t { D with nx := u D X } X ρ S
theorem ule_seq {u : US} {D D' : UEnds} {X X' : XS} (mu : MonoS u) (hD : ULe D D') (hX : XSLe X X') : ULe { D with nx := u D X } { D' with nx := u D' X' } := ⟨fun ρ S h => mu _ _ _ _ _ _ hD hX h, hD.2.1, hD.2.2.1, hD.2.2.2⟩
theorem mono_seq (mt : MonoS t) (mu : MonoS u) : MonoS (uSeq t u) := fun D D' X X' ρ S hD hX h => mt _ _ _ _ _ _ (ule_seq mu hD hX) hX h
theorem ss_nil : TPSs X W [] uNext := ⟨wkSs pss_nil fun D σ H ⟨L, F, S, I, ρ, hd, sl, h⟩ => h σ H I hd (Same.refl _) sl, fun _ _ _ _ _ _ hD _ h => hD.1 _ _ h⟩
theorem s_pass : TPS X W (.Pass pos) uNext := ⟨wkS ps_pass fun D σ H ⟨L, F, S, I, ρ, hd, sl, h⟩ => h σ H I hd (Same.refl _) sl, fun _ _ _ _ _ _ hD _ h => hD.1 _ _ h⟩
def uBreak : US := fun D _ ρ S => D.bk ρ S
def uCont : US := fun D _ ρ S => D.ct ρ S
theorem s_break : TPS X W (.Break pos) uBreak := ⟨wkS ps_break fun D σ H ⟨L, F, S, I, ρ, hd, sl, h⟩ => h σ H I hd (Same.refl _) sl, fun _ _ _ _ _ _ hD _ h => hD.2.2.1 _ _ h⟩
theorem s_continue : TPS X W (.Continue pos) uCont := ⟨wkS ps_continue fun D σ H ⟨L, F, S, I, ρ, hd, sl, h⟩ => h σ H I hd (Same.refl _) sl, fun _ _ _ _ _ _ hD _ h => hD.2.2.2 _ _ h⟩
theorem s_doc {x j pos pos'} : TPS X W (.Expr (.Constant (.str x) j pos) pos') uNext := ⟨wkS ps_doc fun D σ H ⟨L, F, S, I, ρ, hd, sl, h⟩ => h σ H I hd (Same.refl _) sl, fun _ _ _ _ _ _ hD _ h => hD.1 _ _ h⟩
theorem lS_seq (mt : MonoS t) (mu : MonoS u) : ∀ D σ H, lS X.K W (uSeq t u) D σ H → lS X.K W t { D with nx := lS X.K W u D } σ H := fun D σ H ⟨L, F, S, I, ρ, hd, sl, h⟩ =>
  ⟨L, F, S, I, ρ, hd, sl, mt { dnD X.K L F I D with nx := u (dnD X.K L F I D) (dnXS X.K L F I W) } _ (dnXS X.K L F I W) _ _ _ ⟨fun ρ' S' q σ' H' I' hd' s' sl' => ⟨L, F, S', I', ρ', hd', sl', mu _ _ _ _ _ _ (dnD_up s') (dnXS_up s') q⟩, fun _ _ q => q, fun _ _ q => q, fun _ _ q => q⟩ (fun _ _ _ _ _ q => q) h⟩
theorem ss_cons (h1 : TPS X W st t) (h2 : TPSs X W rest u) : TPSs X W (st :: rest) (uSeq t u) := ⟨wkSs (pss_cons h1.pe h2.pe) (lS_seq h1.mono h2.mono), mono_seq h1.mono h2.mono⟩
theorem ss_one (h1 : TPS X W st t) : TPSs X W [st] t := ⟨pss_one h1.pe, h1.mono⟩
/-- what stands behind, under a name -/
structure CutT (u p : QS) : Prop where
  go : ∀ ρ S, u ρ S → p ρ S
def uCut (t u : US) : US := fun D X ρ S => ∀ p : QS, CutT (u D X) p → t { D with nx := p } X ρ S
theorem ss_cut (h1 : TPS X W st t) (h2 : TPSs X W rest u) : TPSs X W (st :: rest) (uCut t u) :=
  ⟨wkSs (ss_cons h1 h2).pe fun D σ H ⟨L, F, S, I, ρ, hd, sl, h⟩ => ⟨L, F, S, I, ρ, hd, sl, h _ ⟨fun _ _ q => q⟩⟩, fun D D' X X' ρ S hD hX h p hp => h1.mono { D with nx := p } _ X _ _ _ ⟨fun _ _ q => q, hD.2.1, hD.2.2.1, hD.2.2.2⟩ hX (h p ⟨fun ρ S q => hp.go _ _ (h2.mono _ _ _ _ _ _ hD hX q)⟩)⟩
def uDrop (te : UE) : US := fun D X ρ S => te ρ S (fun _ S1 => D.nx ρ S1) (atR X ρ)
theorem s_expr (he : TPE X W e te) (hs : swapsWith e none pos.line X.env = pure false := by rfl) : TPS X W (.Expr e pos) (uDrop te) :=
  ⟨wkS (ps_expr he.pe hs) fun D σ H ⟨L, F, S, I, ρ, hd, sl, h⟩ => lE_then he.mono hd sl h (dnXS_at sl) fun y S1 v H1 I1 q hd1 s1 sl1 r => q σ H1 I1 hd1 s1 sl1, fun D D' X X' ρ S hD hX h => he.mono _ _ _ _ _ _ (fun _ _ q => hD.1 _ _ q) (fun _ _ _ _ q => hX _ _ _ _ _ q) h⟩
def uRet (te : UE) : US := fun D X ρ S => te ρ S D.rt (atR X ρ)
theorem s_ret (he : TPE X W e te) : TPS X W (.Return (some e) pos) (uRet te) :=
  ⟨wkS (ps_ret he.pe) fun D σ H ⟨L, F, S, I, ρ, hd, sl, h⟩ => lE_then he.mono hd sl h (dnXS_at sl) fun y S1 v H1 I1 q hd1 s1 sl1 r => q v H1 I1 hd1 s1 r, fun D D' X X' ρ S hD hX h => he.mono _ _ _ _ _ _ (fun _ _ q => hD.2.1 _ _ q) (fun _ _ _ _ q => hX _ _ _ _ _ q) h⟩
def uRetN : US := fun D _ _ S => D.rt .non S
theorem s_retN : TPS X W (.Return none pos) uRetN := ⟨wkS ps_retN fun D σ H ⟨L, F, S, I, ρ, hd, sl, h⟩ => h .non H I hd (Same.refl _) rfl, fun _ _ _ _ _ _ hD _ h => hD.2.1 _ _ h⟩
def uIfS (c : UT) (t u : US) : US := fun D X ρ S => c ρ S (fun b S1 => if b = true then t D X ρ S1 else u D X ρ S1) (atR X ρ)
theorem s_if {c : Expr} {a b : List Stmt} {tc : UT} (hc : TPT X W c tc) (ha : TPSs X W a t) (hb : TPSs X W b u) : TPS X W (.If c a b pos) (uIfS tc t u) :=
  ⟨wkS (ps_if hc.pe ha.pe hb.pe) fun D σ H ⟨L, F, S, I, ρ, hd, sl, h⟩ => lT_then hc.mono hd sl h (dnXS_at sl) fun c S1 H1 I1 q hd1 s1 sl1 => by
    cases c with
    | true => rw [if_pos rfl] at q ⊢; exact lS_then ha.mono hd1 sl1 q (dnD_up s1) (dnXS_up s1)
    | false => rw [if_neg Bool.false_ne_true] at q ⊢; exact lS_then hb.mono hd1 sl1 q (dnD_up s1) (dnXS_up s1), fun D D' X X' ρ S hD hX h => hc.mono _ _ _ _ _ _ (fun c S1 q => by
      cases c with
      | true => rw [if_pos rfl] at q ⊢; exact ha.mono _ _ _ _ _ _ hD hX q
      | false => rw [if_neg Bool.false_ne_true] at q ⊢; exact hb.mono _ _ _ _ _ _ hD hX q) (fun _ _ _ _ q => hX _ _ _ _ _ q) h⟩
def uNever : US := fun _ _ _ _ => False
theorem s_never : TPS X W st uNever := ⟨wkS ps_never fun D σ H ⟨_, _, _, _, _, _, _, h⟩ => h, fun _ _ _ _ _ _ _ _ h => h⟩
theorem ss_never {sts : List Stmt} : TPSs X W sts uNever := ⟨wkSs pss_never fun D σ H ⟨_, _, _, _, _, _, _, h⟩ => h, fun _ _ _ _ _ _ _ _ h => h⟩
/-- name = e -/
def uSet (i : Nat) (te : UE) : US := fun D X ρ S => te ρ S (fun x S1 => D.nx (ρ.set i (some x)) S1) (atR X ρ)
theorem mono_set {i : Nat} (m : MonoE te) : MonoS (uSet i te) := fun D D' X X' ρ S hD hX h => m _ _ _ _ _ _ (fun _ _ q => hD.1 _ _ q) (fun _ _ _ _ q => hX _ _ _ _ _ q) h
theorem lSet {i : Nat} (m : MonoE te) : ∀ D σ H, lS X.K W (uSet i te) D σ H → tAsg (lE X.K W te) (gName i) D σ H := fun D σ H ⟨L, F, S, I, ρ, hd, sl, h⟩ =>
  lE_then m hd sl h (dnXS_at sl) fun y S1 v H1 I1 q hd1 s1 sl1 r => q _ H1 I1 hd1 s1 (sl1.set r)
theorem s_set {i : Nat} {x : Str} {pos' : Pos} (hN : X.N.Nodup) (hi : X.N[i]? = some x) (hx : Loc X.env.scope x) (he : TPE X W e te) (hs : swapsWith e (some (.Name x pos')) pos.line X.env = pure false := by rfl) (hf : X.fn x = true ∨ X.env.scope.names.lookup x = some .local := by first | exact .inl rfl | exact .inr rfl | assumption) :
    TPS X W (.Assign [.Name x pos'] e pos) (uSet i te) := ⟨wkS (ps_set hN hi hx he.pe hs hf) (lSet he.mono), mono_set he.mono⟩
/-- a pattern = e -/
def uAsg (p : Pat) (te : UE) : US := fun D X ρ S => te ρ S (fun x S1 => ∃ ρ2, patR p x ρ = some ρ2 ∧ D.nx ρ2 S1) (atR X ρ)
theorem s_asg {tg : Expr} (p : Pat) (he : TPE X W e te) (hg : PG X tg (gPat X.K p)) (hs : swapsWithSole [tg] e pos.line X.env = pure false := by rfl) (hw : swappedStores [tg] e X.env = pure none := by rfl)
    (h1 : (assignEach [tg] X.env).map (·.2) = [assign tg X.env] := by rfl) : TPS X W (.Assign [tg] e pos) (uAsg p te) :=
  ⟨wkS (ps_asg he.pe hg hs hw h1) fun D σ H ⟨L, F, S, I, ρ, hd, sl, h⟩ => lE_then he.mono hd sl h (dnXS_at sl) fun y S1 v H1 I1 ⟨ρ2, e2, q⟩ hd1 s1 sl1 r =>
    gPat_run hd1 p r sl1 e2 fun σ2 sl2 _ => q σ2 H1 I1 hd1 s1 sl2, fun D D' X X' ρ S hD hX h => he.mono _ _ _ _ _ _ (fun _ _ ⟨ρ2, e2, q⟩ => ⟨ρ2, e2, hD.1 _ _ q⟩) (fun _ _ _ _ q => hX _ _ _ _ _ q) h⟩
/-- x, y = e1, e2 -/
def uPar (i j : Nat) (ta : UA) : US := fun D X ρ S => ta ρ S (fun xs S1 => ∃ x y, xs = [x, y] ∧ D.nx ((ρ.set i (some x)).set j (some y)) S1) (atR X ρ)
theorem s_par {i j : Nat} {x y : Str} {a b : Expr} {ta : UA} (hc : X.calm = true) (hN : X.N.Nodup) (hi : X.N[i]? = some x) (hj : X.N[j]? = some y) (hij : i ≠ j)
    (hx : X.env.scope.names.lookup x = some .local) (hy : X.env.scope.names.lookup y = some .local) (ha : TPA X W [a, b] ta) (hp : PA X [a, b] (lA X.K W ta) → PS X st (tPar i j (lA X.K W ta))) : TPS X W st (uPar i j ta) :=
  ⟨wkS (hp ha.pe) fun D σ H ⟨L, F, S, I, ρ, hd, sl, h⟩ => lA_then ha.mono hd sl h (dnXS_at sl) fun xs S1 vs H1 I1 ⟨x, y, e, q⟩ hd1 s1 sl1 r => by
    subst e
    obtain ⟨v, ws, rfl, r1, r2⟩ := r
    obtain ⟨w, us, rfl, r2, r3⟩ := r2
    cases r3
    exact ⟨v, w, rfl, q _ H1 I1 hd1 s1 ((sl1.set r1).set r2)⟩, fun D D' X X' ρ S hD hX h => ha.mono _ _ _ _ _ _ (fun _ _ ⟨x, y, e2, q⟩ => ⟨x, y, e2, hD.1 _ _ q⟩) (fun _ _ _ _ q => hX _ _ _ _ _ q) h⟩
/-- name op= e -/
def uAug (i : Nat) (g : Tr → Tr → Tr → Prop) (te : UE) : US := fun D X ρ S => ∃ x : Tr, ρ[i]? = some (some x) ∧ te ρ S (fun y S1 => ∃ z, g (vw S1 x) (vw S1 y) z ∧ D.nx (ρ.set i (some z)) S1) (atR X ρ)
theorem s_aug {i : Nat} {x : Str} {op : Operator} {ti : TIp} {g : Tr → Tr → Tr → Prop} {pos' : Pos} (hN : X.N.Nodup) (hi : X.N[i]? = some x) (hx : Loc X.env.scope x) (he : TPE X W e te) (ho : PIp X op ti) (s : OpT X.K ti g) (hf : X.fn x = true ∨ X.env.scope.names.lookup x = some .local := by first | exact .inl rfl | exact .inr rfl | assumption) :
    TPS X W (.AugAssign (.Name x pos') op e pos) (uAug i g te) :=
  ⟨wkS (ps_aug hN hi hx he.pe ho hf) fun D σ H ⟨L, F, S, I, ρ, hd, sl, x, ex, h⟩ => by
    obtain ⟨v, ev, r⟩ := sl.2 i x ex
    exact ⟨v, ev, lE_then he.mono hd sl h (dnXS_at sl) fun y S1 w H1 I1 ⟨z, hg, q⟩ hd1 s1 sl1 ry => s hd1 (r.mono s1) ry hg fun v' H' I' hd' s' r' => q _ H' I' hd' (s1.trans s') ((sl1.mono s').set r')⟩,
    fun D D' X X' ρ S hD hX ⟨x, ex, h⟩ => ⟨x, ex, he.mono _ _ _ _ _ _ (fun _ _ ⟨z, hg, q⟩ => ⟨z, hg, hD.1 _ _ q⟩) (fun _ _ _ _ q => hX _ _ _ _ _ q) h⟩⟩
/-! ### for -/
def uLoop (ok : Sto → Prop) (p : Pat) (tb : US) (D : UEnds) (X : XS) : List Tr → Rho → Sto → Prop
  | [], ρ, S => ok S ∧ D.nx ρ S
  | x :: xs, ρ, S => ok S ∧ ∃ ρ2, patR p x ρ = some ρ2 ∧ tb { D with nx := uLoop ok p tb D X xs, ct := uLoop ok p tb D X xs, bk := D.nx } X ρ2 S
def uFor (ui : UI) (p : Pat) (tb : US) : US := fun D X ρ S => ui ρ S (fun wk S1 => uLoop wk.ok p tb D X wk.xs ρ S1) (atR X ρ)
theorem mono_loop {ok : Sto → Prop} {p : Pat} {tb : US} (mb : MonoS tb) {D D' : UEnds} {X X' : XS} (hD : ULe D D') (hX : XSLe X X') : ∀ (xs : List Tr) (ρ : Rho) (S : Sto), uLoop ok p tb D X xs ρ S → uLoop ok p tb D' X' xs ρ S
  | [], ρ, S, h => ⟨h.1, hD.1 _ _ h.2⟩
  | x :: xs, ρ, S, ⟨h1, ρ2, e, h⟩ => ⟨h1, ρ2, e, mb { D with nx := uLoop ok p tb D X xs, ct := uLoop ok p tb D X xs, bk := D.nx } _ X _ _ _ ⟨mono_loop mb hD hX xs, hD.2.1, hD.1, mono_loop mb hD hX xs⟩ hX h⟩
theorem mono_for {ui : UI} {p : Pat} {tb : US} (mi : MonoI ui) (mb : MonoS tb) : MonoS (uFor ui p tb) := fun D D' X X' ρ S hD hX h => mi _ _ _ _ _ _ (fun wk S1 q => mono_loop mb hD hX _ _ _ q) (fun _ _ _ _ q => hX _ _ _ _ _ q) h
theorem loop_run {K : PySem.W.Frag} {L : Lk} {F H1 I1 : Hp} {S1 : Sto} {ρ : Rho} {σ : L2.St} {wk : Walk} {p : Pat} {tb : US} {D : L2.Ends} {J : It} (mb : MonoS tb) (hd : Hd K L F H1 S1 I1) (sl : Slots K I1 σ ρ) (it : ItRep K L I1 J wk)
    (h : uLoop wk.ok p tb (dnD K L F I1 D) (dnXS K L F I1 W) wk.xs ρ S1) : ∃ Wv : Nat → Nat → L2.St → Hp → Prop, (∃ m, Wv 0 m σ H1) ∧ ∀ i m σ H, Wv i m σ H →
      (J.stop i H ∧ D.nx σ H) ∨ (J.go i H ∧ ∃ N : L2.St → Hp → Prop, (∀ σ' H', N σ' H' → ∃ m', m' < m ∧ Wv (i + 1) m' σ' H') ∧ ∀ x H', J.yld i H x H' → gPat K p x σ H' fun σ2 H2 => lS K W tb { D with nx := N, ct := N, bk := D.nx } σ2 H2) := by
  refine ⟨fun i m σ H => m = wk.xs.length - i ∧ i ≤ wk.xs.length ∧ ∃ S I' ρ, Hd K L F H S I' ∧ Same I1 I' ∧ Slots K I' σ ρ ∧ uLoop wk.ok p tb (dnD K L F I1 D) (dnXS K L F I1 W) (wk.xs.drop i) ρ S, ⟨_, rfl, Nat.zero_le _, S1, I1, ρ, hd, Same.refl _, sl, h⟩, ?_⟩
  rintro i m σ H ⟨rfl, hi, S, I', ρ, hd', s', sl', h'⟩
  by_cases hl : i < wk.xs.length
  · obtain ⟨x, ex⟩ : ∃ x, wk.xs[i]? = some x := ⟨_, List.getElem?_eq_getElem hl⟩
    have ed : wk.xs.drop i = x :: wk.xs.drop (i + 1) := by
      rw [List.drop_eq_getElem_cons hl]
      rw [List.getElem?_eq_getElem hl] at ex
      cases ex; rfl
    rw [ed] at h'
    obtain ⟨hok, ρ2, e2, hb⟩ := h'
    refine .inr ⟨it.go F i H S I' hd' s' hok hl, _, fun σ' H' n => ⟨wk.xs.length - (i + 1), by omega, n⟩, fun v H2 y => ?_⟩
    obtain ⟨I2, hd2, s2, r2⟩ := it.yld F i H S I' v H2 x hd' s' hok ex y
    refine gPat_run hd2 p r2 (sl'.mono s2) e2 fun σ2 sl2 _ => lS_then mb hd2 sl2 hb ⟨fun ρ3 S3 q σ3 H3 I3 hd3 s3 sl3 => ?_, dnV_up (s'.trans s2), dnS_up (s'.trans s2), fun ρ3 S3 q σ3 H3 I3 hd3 s3 sl3 => ?_⟩ (dnXS_up (s'.trans s2))
    · exact ⟨rfl, hl, S3, I3, ρ3, hd3, (s'.trans s2).trans s3, sl3, q⟩
    · exact ⟨rfl, hl, S3, I3, ρ3, hd3, (s'.trans s2).trans s3, sl3, q⟩
  · have e : i = wk.xs.length := by omega
    rw [List.drop_eq_nil_of_le (by omega)] at h'
    exact .inl ⟨it.stop F i H S I' hd' s' h'.1 e, h'.2 σ H I' hd' s' sl'⟩
theorem s_for {tg iter : Expr} {body : List Stmt} {ui : UI} {tb : US} (p : Pat) (hp : PassesOwn (model X.prog X.w) X.A X.env X.xe) (hc : X.calm = true) (hi : TPI X W tg iter ui) (hg : PG X tg (gPat X.K p)) (hb : TPSs X W body tb)
    (hs : ∀ x, foldedSetIterable iter X.env x = pure x := by intro _; rfl) : TPS X W (.For tg iter body [] pos) (uFor ui p tb) :=
  ⟨wkS (ps_for hp hc hi.pe hg hb.pe hs) fun D σ H ⟨L, F, S, I, ρ, hd, sl, h⟩ => ⟨L, F, S, I, ρ, hd, sl, hi.mono _ _ _ _ _ _ (fun wk S1 q J H1 I1 hd1 s1 it => loop_run hb.mono hd1 (sl.mono s1) it (mono_loop hb.mono (dnD_up s1) (dnXS_up s1) _ _ _ q)) (dnXS_at sl) h⟩, mono_for hi.mono hb.mono⟩
/-! ### while -/
def uWhile (c : UT) (tb : US) : US := fun D X ρ S => ∃ Wv : Nat → Rho → Sto → Prop, (∃ m, Wv m ρ S) ∧ ∀ m ρ S, Wv m ρ S →
  c ρ S (fun b S1 => if b = true then tb { D with nx := fun ρ' S' => ∃ m', m' < m ∧ Wv m' ρ' S', ct := fun ρ' S' => ∃ m', m' < m ∧ Wv m' ρ' S', bk := D.nx } X ρ S1 else D.nx ρ S1) (atR X ρ)
theorem s_while {c : Expr} {body : List Stmt} {tc : UT} {tb : US} (hp : PassesOwn (model X.prog X.w) X.A X.env X.xe) (hc : TPT X W c tc) (hb : TPSs X W body tb) : TPS X W (.While c body [] pos) (uWhile tc tb) :=
  ⟨wkS (ps_while hp hc.pe hb.pe) fun D σ H ⟨L, F, S, I, ρ, hd, sl, Wv, ⟨m0, w0⟩, turn⟩ => by
    refine ⟨fun m σ H => ∃ S I' ρ, Hd X.K L F H S I' ∧ Same I I' ∧ Slots X.K I' σ ρ ∧ Wv m ρ S, ⟨m0, S, I, ρ, hd, Same.refl _, sl, w0⟩, ?_⟩
    rintro m σ H ⟨S, I', ρ, hd', s', sl', w'⟩
    refine lT_then hc.mono hd' sl' (turn m ρ S w') (fun c f x S2 q => dnXS_at sl' _ _ _ _ (dnXS_up s' _ _ _ _ _ q)) fun b S1 H1 I1 q hd1 s1 sl1 => ?_
    cases b with
    | true =>
      rw [if_pos rfl] at q ⊢
      refine ⟨fun σ2 H2 => ∃ m', m' < m ∧ ∃ S I' ρ, Hd X.K L F H2 S I' ∧ Same I I' ∧ Slots X.K I' σ2 ρ ∧ Wv m' ρ S, fun σ2 H2 z => z, ?_⟩
      refine lS_then hb.mono hd1 sl1 q ⟨fun ρ3 S3 ⟨m', hm, w3⟩ σ3 H3 I3 hd3 s3 sl3 => ⟨m', hm, S3, I3, ρ3, hd3, (s'.trans s1).trans s3, sl3, w3⟩, dnV_up (s'.trans s1), dnS_up (s'.trans s1), fun ρ3 S3 ⟨m', hm, w3⟩ σ3 H3 I3 hd3 s3 sl3 => ⟨m', hm, S3, I3, ρ3, hd3, (s'.trans s1).trans s3, sl3, w3⟩⟩ (dnXS_up (s'.trans s1))
    | false => rw [if_neg Bool.false_ne_true] at q ⊢; exact q σ H1 I1 hd1 (s'.trans s1) sl1, fun D D' X X' ρ S hD hX ⟨Wv, w0, turn⟩ => ⟨Wv, w0, fun m ρ S w => hc.mono _ _ _ _ _ _ (fun b S1 q => by
      cases b with
      | true => rw [if_pos rfl] at q ⊢; exact hb.mono { D with nx := fun ρ' S' => ∃ m', m' < m ∧ Wv m' ρ' S', ct := fun ρ' S' => ∃ m', m' < m ∧ Wv m' ρ' S', bk := D.nx } _ X _ _ _ ⟨fun _ _ q => q, hD.2.1, hD.1, fun _ _ q => q⟩ hX q
      | false => rw [if_neg Bool.false_ne_true] at q ⊢; exact hD.1 _ _ q) (fun _ _ _ _ q => hX _ _ _ _ _ q) (turn m ρ S w)⟩⟩
end
/-! ### what is walked -/
section
variable {X : Cx} {W : WX} {tg l : Expr} {te : UE}
def asL : Tr → Option (List Tr)
  | .lst xs => some xs
  | .scr ns => some (ns.map Tr.int)
  | _ => none
/-- over a list, a tuple, the script -/
def uSeqI (te : UE) : UI := fun ρ S R X => te ρ S (fun x S1 => ∃ xs, (asL (vw S1 x) = some xs ∨ vw S1 x = .tup xs) ∧ R ⟨xs, fun S' => vw S' x = vw S1 x⟩ S1) X
theorem mono_seqI (m : MonoE te) : MonoI (uSeqI te) := fun ρ S Q Q' X X' hQ hX h => m _ _ _ _ _ _ (fun x S1 ⟨xs, e, q⟩ => ⟨xs, e, hQ _ _ q⟩) hX h
theorem asL_sq {K : PySem.W.Frag} {L : Lk} {F H I : Hp} {S : Sto} {x : Tr} {v : V} {xs : List Tr} (h : Hd K L F H S I) (r : Rep K I x v) (e : asL (vw S x) = some xs) : ∃ a vs, v = .ref a ∧ SqL K H a vs ∧ RepL K I xs vs := by
  cases z : vw S x with
  | lst ys =>
    rw [z] at e; cases e
    obtain ⟨a, vs, e1, e2, e3⟩ := vw_lst h r z
    exact ⟨a, vs, e1, .inl (.inl e2), e3⟩
  | scr ns =>
    rw [z] at e; cases e
    obtain ⟨a, e1, e2⟩ := vw_scr h r z
    exact ⟨a, _, e1, e2, RepL.ints ns⟩
  | _ => rw [z] at e; cases e
theorem RepL.inj' {K : PySem.W.Frag} {I : Hp} {xs : List Tr} {vs : List V} {i : Nat} {x : Tr} (r : RepL K I xs vs) (e : xs[i]? = some x) : ∃ v, vs[i]? = some v ∧ Rep K I x v := r.get' e
theorem i_seq (hl : TPE X W l te) : TPI X W tg l (uSeqI te) :=
  ⟨wkI (KB.pi_seq hl.pe) fun σ H R ⟨L, F, S, I, ρ, hd, sl, h⟩ => lE_then hl.mono hd sl h (fun _ _ _ _ h => h) fun x S1 v H1 I1 ⟨xs, e, q⟩ hd1 s1 sl1 r => by
    rcases e with e | e
    · obtain ⟨a, vs, rfl, h1, h2⟩ := asL_sq hd1 r e
      refine ⟨a, rfl, .inl ⟨⟨vs, h1⟩, q (Itl X.K a) H1 I1 hd1 s1 ⟨fun F i H S' I' hd' s' hok hi => ?_, fun F i H S' I' hd' s' hok hi => ?_, fun F i H S' I' w H' y hd' s' hok hi hy => ?_⟩⟩⟩
      · obtain ⟨b, ws, eb, h3, h4⟩ := asL_sq (x := x) hd' (r.mono s') (by rw [hok]; exact e)
        cases eb
        have hl : i < ws.length := by rw [h4.len]; exact hi
        exact ⟨ws, ws[i], h3, List.getElem?_eq_getElem hl⟩
      · obtain ⟨b, ws, eb, h3, h4⟩ := asL_sq (x := x) hd' (r.mono s') (by rw [hok]; exact e)
        cases eb
        exact ⟨ws, h3, by rw [h4.len]; show xs.length ≤ i; have : i = xs.length := hi; omega⟩
      · obtain ⟨b, ws, eb, h3, h4⟩ := asL_sq (x := x) hd' (r.mono s') (by rw [hok]; exact e)
        cases eb
        obtain ⟨rfl, hy⟩ := hy
        obtain ⟨u, eu, ru⟩ := h4.get' hi
        have := hy ws h3
        rw [eu] at this; cases this
        exact ⟨I', hd', Same.refl _, ru⟩
    · obtain ⟨a, vs, rfl, h1, h2⟩ := vw_tup hd1 r e
      refine ⟨a, rfl, .inr ⟨⟨vs, h1⟩, q (Itt X.K a) H1 I1 hd1 s1 ⟨fun F i H S' I' hd' s' hok hi => ?_, fun F i H S' I' hd' s' hok hi => ?_, fun F i H S' I' w H' y hd' s' hok hi hy => ?_⟩⟩⟩
      · obtain ⟨b, ws, eb, h3, h4⟩ := vw_tup (x := x) hd' (r.mono s') (by rw [hok]; exact e)
        cases eb
        have hl : i < ws.length := by rw [h4.len]; exact hi
        exact ⟨ws, ws[i], h3, List.getElem?_eq_getElem hl⟩
      · obtain ⟨b, ws, eb, h3, h4⟩ := vw_tup (x := x) hd' (r.mono s') (by rw [hok]; exact e)
        cases eb
        exact ⟨ws, h3, by rw [h4.len]; show xs.length ≤ i; have : i = xs.length := hi; omega⟩
      · obtain ⟨b, ws, eb, h3, h4⟩ := vw_tup (x := x) hd' (r.mono s') (by rw [hok]; exact e)
        cases eb
        obtain ⟨rfl, hy⟩ := hy
        obtain ⟨u, eu, ru⟩ := h4.get' hi
        have := hy ws h3
        rw [eu] at this; cases this
        exact ⟨I', hd', Same.refl _, ru⟩, mono_seqI hl.mono⟩
end
end KQ
namespace KQ
open PySem PySem.Spec PyProof.Rows L2 TL KB
/-! ### freezing: cells become trees -/
mutual
inductive Res (G : Addr → Prop) (S : Sto) : Tr → Tr → Prop
  | self (x : Tr) : Res G S x x
  | cell {a : Addr} {c y : Tr} (g : G a) (e : S a = some c) (r : Res G S c y) : Res G S (.ref a) y
  | lst {xs ys : List Tr} (r : ResL G S xs ys) : Res G S (.lst xs) (.lst ys)
  | tup {xs ys : List Tr} (r : ResL G S xs ys) : Res G S (.tup xs) (.tup ys)
  | dic {ks : List Key} {xs ys : List Tr} (r : ResL G S xs ys) : Res G S (.dic ks xs) (.dic ks ys)
  | ins {C : Addr} {fs : List Str} {xs ys : List Tr} (r : ResL G S xs ys) : Res G S (.ins C fs xs) (.ins C fs ys)
inductive ResL (G : Addr → Prop) (S : Sto) : List Tr → List Tr → Prop
  | nil : ResL G S [] []
  | cons {x y : Tr} {xs ys : List Tr} (r : Res G S x y) (t : ResL G S xs ys) : ResL G S (x :: xs) (y :: ys)
end
theorem ResL.len {G : Addr → Prop} {S : Sto} : ∀ {xs ys : List Tr}, ResL G S xs ys → ys.length = xs.length
  | _, _, .nil => rfl
  | _, _, .cons r t => by rw [List.length_cons, List.length_cons, t.len]
section
variable {K : PySem.W.Frag} {L : Lk} {F H I : Hp} {S : Sto} {G : Addr → Prop}
open Classical in
/-- the trees' part with what is frozen -/
noncomputable def thaw (H I : Hp) (G : Addr → Prop) : Hp := fun b => if G b then H b else I b
theorem thaw_same (hd : Hd K L F H S I) (g : ∀ a, G a → ∃ c, S a = some c) : Same I (thaw H I G) := fun b o e => by
  unfold thaw
  rw [if_neg]
  · exact e
  · intro z
    obtain ⟨c, ec⟩ := g b z
    rw [(hd.cel b c ec).1] at e
    cases e
mutual
theorem Res.rep (hd : Hd K L F H S I) (g : ∀ a, G a → ∃ c, S a = some c) : ∀ {x y : Tr}, Res G S x y → (∀ v, Rep K I x v → Rep K (thaw H I G) y v) ∧ (∀ a o, CRep K I x o → thaw H I G a = some o → Rep K (thaw H I G) y (.ref a))
  | _, _, .self x => ⟨fun v r => r.mono (thaw_same hd g), fun a o r e => by
      cases x with
      | lst xs => obtain ⟨vs, rfl, h⟩ := r; exact ⟨a, vs, rfl, e, h.mono (thaw_same hd g)⟩
      | dic ks xs => obtain ⟨vs, rfl, l, h⟩ := r; exact ⟨a, vs, rfl, e, l, h.mono (thaw_same hd g)⟩
      | ins C fs xs => obtain ⟨dx, vs, rfl, l, h⟩ := r; exact ⟨a, dx, vs, rfl, e, l, h.mono (thaw_same hd g)⟩
      | opq q => cases r; exact ⟨a, rfl, e⟩
      | sem c => exact ⟨a, o, rfl, e, fun I2 s2 => r I2 a ((thaw_same hd g).trans s2)⟩
      | _ => exact r.elim⟩
  | _, _, .cell (a := a) (c := c) ga ea rc => ⟨fun v r => by
      cases r
      obtain ⟨_, _, o, ho, hc⟩ := hd.cel a c ea
      exact (Res.rep hd g rc).2 a o hc (by unfold thaw; rw [if_pos ga]; exact ho), fun b o r e => r.elim⟩
  | _, _, .lst rl => ⟨fun v r => by
      obtain ⟨a, vs, rfl, h1, h2⟩ := r
      exact ⟨a, vs, rfl, thaw_same hd g _ _ h1, ResL.rep hd g rl vs h2⟩, fun a o r e => by
      obtain ⟨vs, rfl, h⟩ := r
      exact ⟨a, vs, rfl, e, ResL.rep hd g rl vs h⟩⟩
  | _, _, .tup rl => ⟨fun v r => by
      obtain ⟨a, vs, rfl, h1, h2⟩ := r
      exact ⟨a, vs, rfl, sqT_mono (thaw_same hd g) h1, ResL.rep hd g rl vs h2⟩, fun a o r e => r.elim⟩
  | _, _, .dic rl => ⟨fun v r => by
      obtain ⟨a, vs, rfl, h1, h2, h3⟩ := r
      exact ⟨a, vs, rfl, thaw_same hd g _ _ h1, h2.trans rl.len.symm, ResL.rep hd g rl vs h3⟩, fun a o r e => by
      obtain ⟨vs, rfl, l, h⟩ := r
      exact ⟨a, vs, rfl, e, l.trans rl.len.symm, ResL.rep hd g rl vs h⟩⟩
  | _, _, .ins rl => ⟨fun v r => by
      obtain ⟨a, dx, vs, rfl, h1, h2, h3⟩ := r
      exact ⟨a, dx, vs, rfl, thaw_same hd g _ _ h1, h2.trans rl.len.symm, ResL.rep hd g rl vs h3⟩, fun a o r e => by
      obtain ⟨dx, vs, rfl, l, h⟩ := r
      exact ⟨a, dx, vs, rfl, e, l.trans rl.len.symm, ResL.rep hd g rl vs h⟩⟩
theorem ResL.rep (hd : Hd K L F H S I) (g : ∀ a, G a → ∃ c, S a = some c) : ∀ {xs ys : List Tr}, ResL G S xs ys → ∀ vs, RepL K I xs vs → RepL K (thaw H I G) ys vs
  | _, _, .nil, vs, h => h
  | _, _, .cons r t, vs, h => by
    obtain ⟨v, ws, rfl, h1, h2⟩ := h
    exact ⟨v, ws, rfl, (Res.rep hd g r).1 v h1, ResL.rep hd g t ws h2⟩
end
theorem Hd.thawed {S' : Sto} (hd : Hd K L F H S I) (g : ∀ a, G a → ∃ c, S a = some c) (s : ∀ a c, S' a = some c → S a = some c ∧ ¬ G a) : Hd K L F H S' (thaw H I G) := by
  have sm := thaw_same (G := G) hd g
  have low : ∀ b o, thaw H I G b = some o → (G b ∧ H b = some o) ∨ (¬ G b ∧ I b = some o) := fun b o e => by
    unfold thaw at e
    split at e
    · rename_i z; exact .inl ⟨z, e⟩
    · rename_i z; exact .inr ⟨z, e⟩
  refine ⟨fun b o e => ?_, fun b od e => ?_, fun a c e => ?_, fun b o e => ?_⟩
  · rcases low b o e with ⟨z, e⟩ | ⟨z, e⟩
    · obtain ⟨c, ec⟩ := g b z
      rw [hd.lkN (hd.cel b c ec).1]
      exact e
    · exact hd.sub b o e
  · obtain ⟨k, e⟩ := hd.lck b od e
    exact ⟨k, sm _ _ e⟩
  · obtain ⟨e1, ng⟩ := s a c e
    obtain ⟨h1, h2, o, h3, h4⟩ := hd.cel a c e1
    exact ⟨by unfold thaw; rw [if_neg ng]; exact h1, h2, o, h3, h4.mono sm⟩
  · obtain ⟨h1, h2⟩ := hd.fra b o e
    refine ⟨h1, ?_⟩
    cases q : thaw H I G b with
    | none => rfl
    | some u =>
      rcases low b u q with ⟨z, _⟩ | ⟨_, z⟩
      · obtain ⟨c, ec⟩ := g b z
        rw [(hd.cel b c ec).2.1] at e
        cases e
      · rw [h2] at z; cases z
end
def Frz (y : Tr) (S : Sto) (y' : Tr) (S' : Sto) : Prop := ∃ G : Addr → Prop, Res G S y y' ∧ (∀ a c, S' a = some c → S a = some c ∧ ¬ G a) ∧ ∀ a, G a → ∃ c, S a = some c
def Closed (Q : QV) : Prop := ∀ y S y' S', Frz y S y' S' → Q y' S' → Q y S
def Sub (S' S : Sto) : Prop := ∀ a c, S' a = some c → S a = some c
def ClosedX (X : QX) : Prop := ∀ c fs xs S S', Sub S' S → X c fs xs S' → X c fs xs S
theorem dnV_closed {K : PySem.W.Frag} {L : Lk} {F I : Hp} {R : VK} : Closed (dnV K L F I R) := fun y S y' S' ⟨G, r, s, g⟩ q v H' I' hd sm rp =>
  q v H' (thaw H' I' G) (hd.thawed g s) (sm.trans (thaw_same hd g)) ((r.rep hd g).1 v rp)
/-- a cell that goes out as a tree -/
theorem Frz.one {S S' : Sto} {a : Addr} {c : Tr} (e : S a = some c) (s : Sub S' S) (n : S' a = none) : Frz (.ref a) S c S' :=
  ⟨fun b => b = a, .cell rfl e (.self c), fun b d h => ⟨s b d h, fun z => by subst z; rw [n] at h; cases h⟩, fun b z => ⟨c, by rw [z]; exact e⟩⟩
theorem Frz.drop {S S' : Sto} {y : Tr} (s : Sub S' S) : Frz y S y S' := ⟨fun _ => False, .self y, fun b d h => ⟨s b d h, fun z => z⟩, fun _ z => z.elim⟩
theorem Closed.one {Q : QV} {S S' : Sto} {a : Addr} {c : Tr} (h : Closed Q) (e : S a = some c) (s : Sub S' S) (n : S' a = none) (q : Q c S') : Q (.ref a) S := h _ _ _ _ (Frz.one e s n) q
theorem Closed.drop {Q : QV} {S S' : Sto} {y : Tr} (h : Closed Q) (s : Sub S' S) (q : Q y S') : Q y S := h _ _ _ _ (Frz.drop s) q
theorem Sub.noneAt {S' S : Sto} (s : Sub S' S) {d : Addr} (h : S d = none) : S' d = none := by
  cases e : S' d with
  | none => rfl
  | some c => rw [s d c e] at h; cases h
theorem Sub.refl (S : Sto) : Sub S S := fun _ _ h => h
theorem Sub.new {S S' : Sto} {p : Addr} {c : Tr} (s : Sub S' S) (n : S' p = none) : Sub S' (put S p c) := fun a d e => by
  have hn : a ≠ p := fun z => by subst z; rw [n] at e; cases e
  rw [put_ne hn]; exact s a d e
theorem Sub.both {S S' : Sto} {p : Addr} {c : Tr} (s : Sub S' S) : Sub (put S' p c) (put S p c) := fun a d e => by
  by_cases h : a = p
  · subst h; rw [put_same] at e ⊢; exact e
  · rw [put_ne h] at e ⊢; exact s a d e
/-! ### promises over trees -/
abbrev TSp := List Tr → Sto → QV → QX → Prop
def MonoSp (t : TSp) : Prop := ∀ xs S (Q Q' : QV) (X X' : QX), (∀ y S, Q y S → Q' y S) → XLe X X' → t xs S Q X → t xs S Q' X'
def lSp (K : PySem.W.Frag) (t : TSp) : Sp := fun vs H Q E => ∃ L F S I xs, Hd K L F H S I ∧ RepL K I xs vs ∧ t xs S (dnV K L F I Q) (dnX K L F I (fun c d _ H => E c d H) [])
theorem dnE_eq {K : PySem.W.Frag} {L : Lk} {F I : Hp} {W : WX} {σ : L2.St} : dnX K L F I (fun c d _ H => WE W σ c d H) [] = dnX K L F I W σ := rfl
structure CalleeT (P : Program) (w : World) (K : PySem.W.Frag) (mg : Str → Option Value) (base : Heap) (k : Nat) (x : Str) (ps : List Str) (t : TSp) : Prop where
  ex : ∃ (f : Addr) (fd : FuncData), mg x = some (.ref f) ∧ PySem.W.keepIn K (.ref f) = true ∧ Binds K fd ps [] ∧ FnOk P w K mg base (L2.CX P w) k f fd ps (lSp K t) ∧ ∃ oc od osl, K.lookup f = some ⟨oc, od, .func fd, osl⟩
  mono : MonoSp t
def startT (N : List Str) (xs : List Tr) : Rho := xs.map some ++ List.replicate (N.length - xs.length) none
theorem slots_start {K : PySem.W.Frag} {I : Hp} {N : List Str} {xs : List Tr} {vs : List V} (r : RepL K I xs vs) : Slots K I (start N vs) (startT N xs) := by
  refine ⟨by simp [L2.start, startT, r.len], fun i x e => ?_⟩
  unfold startT at e
  unfold L2.start
  by_cases hi : i < xs.length
  · rw [List.getElem?_append_left (by simpa using hi), List.getElem?_map] at e
    rw [List.getElem?_append_left (by simpa [r.len] using hi), List.getElem?_map]
    cases z : xs[i]? with
    | none => rw [z] at e; cases e
    | some y =>
      rw [z] at e
      cases e
      obtain ⟨v, ev, rv⟩ := r.get' z
      exact ⟨v, by rw [ev]; rfl, rv⟩
  · rw [List.getElem?_append_right (by simpa using hi)] at e
    rw [List.getElem?_replicate] at e
    split at e <;> cases e
section
variable {P : Program} {w : World} {K : PySem.W.Frag} {mg : Str → Option Value} {base : Heap}
/-- the end of a def's body -/
def endU (Q : QV) : UEnds := ⟨fun _ S' => Q .non S', Q, fun _ _ => False, fun _ _ => False⟩
def endX (X : QX) : XS := fun c fs xs _ S' => X c fs xs S'
theorem body_ok {st : Stmt} {N : List Str} {tsp : TSp} {us : US} {X : Cx} {L : Lk} {F H I : Hp} {S : Sto} {xs : List Tr} {vs : List V} {Q : VK} {E : XK} (m : MonoS us) (hd : Hd K L F H S I) (r : RepL K I xs vs)
    (h : us (endU (dnV K L F I Q)) (endX (dnX K L F I (fun c d _ H => E c d H) [])) (startT N xs) S) : lS K (fun cls d _ H => E cls d H) us { nx := fun _ H' => Q .non H', rt := Q } (start N vs) H :=
  lS_then m hd (slots_start r) h ⟨fun ρ S' q σ' H' I' hd' s' sl' => q .non H' I' hd' s' rfl, fun _ _ q => q, fun _ _ q => q.elim, fun _ _ q => q.elim⟩ (fun c fs xs ρ S' q d σ' H' I' hd' s' sl' x => q d H' I' hd' s' x)
theorem Def.okT {x : Str} {st : Stmt} {N ps : List Str} {k : Nat} {tsp : TSp} {us : US} (D : Def K mg x st) (S : FnScope N ps (defScope st))
    (hb : ∀ (kV doc pm : Value) (an : Option Addr) (cdv ct : Value) (us : List Value), us.length = ps.length → bindArgs (PySem.W.fnOf x x (defArgs st) (defBody st) (defScope st) .none kV doc pm an cdv ct) ⟨us, []⟩ = pure (ps.zip us))
    (len : ∀ xs S Q X, tsp xs S Q X → xs.length = ps.length) (mono : MonoSp tsp)
    (body : ∀ (f : Addr) (cdv : Value) (A : Around) (outer : List Env) (s : Shared) (H : Hp) (E : XK), Room k (A.deeper (envOfC x (defScope st) s.heap.objs.size f cdv)) → Takes (cxOf (L2.CX P w) P w K mg base N x (defScope st) f cdv A outer s H E) (fun cls d _ H => E cls d H) →
      PassesOwn (model P w) (cxOf (L2.CX P w) P w K mg base N x (defScope st) f cdv A outer s H E).A (cxOf (L2.CX P w) P w K mg base N x (defScope st) f cdv A outer s H E).env (cxOf (L2.CX P w) P w K mg base N x (defScope st) f cdv A outer s H E).xe →
      TPSs (cxOf (L2.CX P w) P w K mg base N x (defScope st) f cdv A outer s H E) (fun cls d _ H => E cls d H) (defBody st) us)
    (h : ∀ xs S Q X, Closed Q → ClosedX X → tsp xs S Q X → us (endU Q) (endX X) (startT N xs) S) : CalleeT P w K mg base (k + 1) x ps tsp := by
  obtain ⟨f, fd, Fn, g⟩ := D.ex
  have E := Fn.ex
  obtain ⟨oc, od, kV, doc, pm, an, cdv, ct, osl, e, lk, _⟩ := E
  refine ⟨⟨f, fd, g, Fn.kp, Fn.binds hb, Fn.okX S (fun vs H Q E ⟨_, _, _, _, xs, _, r, q⟩ => by rw [r.len]; exact len _ _ _ _ q) fun cdv A outer s H vs Q E hr ⟨L, F, S0, I, xs, hd, r, q⟩ => ?_, oc, od, osl, lk⟩, mono⟩
  have B := body f cdv A outer s H E hr (takes_of rfl rfl rfl rfl) (passes_of rfl)
  exact ⟨_, B.pe, body_ok (st := st) (tsp := tsp) (X := cxOf (L2.CX P w) P w K mg base N x (defScope st) f cdv A outer s H E) B.mono hd r (h xs S0 _ _ dnV_closed (fun c fs ys S S' sb z d H' I' hd' s' ⟨vs, h1, h2, h3, h4, h5, h6⟩ => z d H' I' (hd'.fewer sb) s' ⟨vs, h1, h2, h3, h4, sb.noneAt h5, h6⟩) q)⟩
/-- a promise that nobody can ask for -/
theorem Def.botT {x : Str} {st : Stmt} {N ps : List Str} {k : Nat} {tsp : TSp} (D : Def K mg x st)
    (hb : ∀ (kV doc pm : Value) (an : Option Addr) (cdv ct : Value) (us : List Value), us.length = ps.length → bindArgs (PySem.W.fnOf x x (defArgs st) (defBody st) (defScope st) .none kV doc pm an cdv ct) ⟨us, []⟩ = pure (ps.zip us))
    (h : ∀ xs S Q X, ¬ tsp xs S Q X) : CalleeT P w K mg base k x ps tsp := by
  obtain ⟨f, fd, F, g⟩ := D.ex
  have E := F.ex
  obtain ⟨oc, od, kV, doc, pm, an, cdv, ct, osl, e, lk, _⟩ := E
  exact ⟨⟨f, fd, g, F.kp, F.binds hb, ⟨fun vs H Q E ⟨_, _, _, _, xs, _, r, q⟩ => (h _ _ _ _ q).elim, fun _ _ _ _ _ _ _ _ _ _ _ _ _ ⟨_, _, _, _, xs, _, r, q⟩ => (h _ _ _ _ q).elim⟩, oc, od, osl, lk⟩, fun xs S Q Q' X X' _ _ q => (h _ _ _ _ q).elim⟩
theorem CalleeT.imp {k : Nat} {x : Str} {ps : List Str} {t t' : TSp} (C : CalleeT P w K mg base k x ps t) (m : MonoSp t') (h : ∀ xs S Q X, Closed Q → t' xs S Q X → t xs S Q X) : CalleeT P w K mg base k x ps t' := by
  obtain ⟨⟨f, fd, g, kp, b, F, lk⟩, _⟩ := C
  exact ⟨⟨f, fd, g, kp, b, F.imp fun vs H Q E ⟨L, F, S, I, xs, hd, r, q⟩ => ⟨L, F, S, I, xs, hd, r, h _ _ _ _ dnV_closed q⟩, lk⟩, m⟩
end
/-! ### calls -/
section
variable {X : Cx} {W : WX} {e : Expr} {es : List Expr} {tr : UA} {pos p : Pos} {k : Nat} {x : Str} {ps : List Str} {tsp : TSp}
def uCall (tsp : TSp) (t : UA) : UE := fun ρ S Q X => t ρ S (fun xs S1 => tsp xs S1 Q X) X
theorem mono_call (ms : MonoSp tsp) (m : MonoA tr) : MonoE (uCall tsp tr) := fun ρ S Q Q' X X' hQ hX h => m _ _ _ _ _ _ (fun xs S1 q => ms _ _ _ _ _ _ hQ hX q) hX h
theorem lCall (ms : MonoSp tsp) (m : MonoA tr) : ∀ σ H R, lE X.K W (uCall tsp tr) σ H R → tCallS (lSp X.K tsp) (WE W) (lA X.K W tr) σ H R := fun σ H R ⟨L, F, S, I, ρ, hd, sl, h⟩ =>
  lA_then m hd sl h (fun _ _ _ _ h => h) fun xs S1 vs H1 I1 q hd1 s1 sl1 r => ⟨L, F, S1, I1, xs, hd1, r, ms _ _ _ _ _ _ (dnV_up s1) (dnX_up s1) q⟩
theorem e_call (C : CalleeT X.prog X.w X.K X.mg X.base k x ps tsp) (hr : Room k X.A) (hg : Gl X x) (tk : Takes X W) (ha : TPA X W (e :: es) tr) (hdb : (x == ("__debug__" : Str)) = false := by decide)
    (he : starEach (e :: es) X.env = (false, eval e X.env) :: starEach es X.env := by rfl) (hpl : (backTo pos (starEach es X.env)).any (·.1) = false := by rfl) : TPE X W (.Call (.Name x p) (e :: es) [] pos) (uCall tsp tr) := by
  obtain ⟨⟨f, fd, g, kp, b, F, _⟩, ms⟩ := C
  exact ⟨wkE (pe_callS F hr hg g kp b (fun σ => passAt tk σ) ha.pe hdb he hpl) (lCall ms ha.mono), mono_call ms ha.mono⟩
theorem e_call0 (C : CalleeT X.prog X.w X.K X.mg X.base k x ps tsp) (hr : Room k X.A) (hg : Gl X x) (tk : Takes X W) (hdb : (x == ("__debug__" : Str)) = false := by decide) : TPE X W (.Call (.Name x p) [] [] pos) (uCall tsp uNil) := by
  obtain ⟨⟨f, fd, g, kp, b, F, _⟩, ms⟩ := C
  refine ⟨⟨fun pins s σ H Q I h => ?_⟩, mono_call ms (a_nil (X := X) (W := W)).mono⟩
  refine wpAny_Call_Name_kw (ld_glob I hg g ?_ hdb)
  obtain ⟨L, F', S, I', ρ, hd, sl, q⟩ := h
  exact PySem.W.callWith_K0 I.kIn kp (run_fnS (us := []) (vs := []) (E := WE W) F hr b (passAt tk σ) I .nil ⟨L, F', S, I', [], hd, rfl, q⟩)
end
/-! ### list comprehensions -/
section
variable {X : Cx} {W : WX}
abbrev W0 : WX := fun _ _ _ _ => False
abbrev X0 : QX := fun _ _ _ _ => False
structure TPTs (X : Cx) (ifs : List Expr) (t : UT) : Prop where
  pe : PTs X ifs (lT X.K W0 t)
  mono : MonoT t
def uYes : UT := fun _ S Q _ => Q true S
theorem ts_nil : TPTs X [] uYes := ⟨⟨fun pins s σ H Q I h => pts_nil.run pins s σ H Q I (by
  obtain ⟨L, F, S, I', ρ, hd, sl, q⟩ := h
  exact q H I' hd (Same.refl _))⟩, fun _ _ _ _ _ _ hQ _ h => hQ _ _ h⟩
theorem ts_one {c : Expr} {t : UT} (h : TPT X W0 c t) : TPTs X [c] t := ⟨pts_one h.pe, h.mono⟩
def uLcL (ok : Sto → Prop) (p : Pat) (tt : UT) (te : UE) (ρ : Rho) (Q : QV) : List Tr → List Tr → Sto → Prop
  | [], acc, S => ok S ∧ Q (.lst acc) S
  | x :: xs, acc, S => ok S ∧ ∃ ρ2, patR p x ρ = some ρ2 ∧ tt ρ2 S (fun b S3 => if b = true then te ρ2 S3 (fun y S4 => acc.length < sizeLine ∧ uLcL ok p tt te ρ Q xs (acc ++ [y]) S4) X0 else uLcL ok p tt te ρ Q xs acc S3) X0
def uLc (ui : UI) (p : Pat) (tt : UT) (te : UE) (vs : List Nat) : UE := fun ρ S Q X => ui ρ S (fun wk S1 => uLcL wk.ok p tt te (wipeR ρ vs) Q wk.xs [] S1) X
theorem mono_lcL {ok : Sto → Prop} {p : Pat} {tt : UT} {te : UE} {ρ : Rho} {Q Q' : QV} (mt : MonoT tt) (me : MonoE te) (hQ : ∀ y S, Q y S → Q' y S) : ∀ (xs acc : List Tr) (S : Sto), uLcL ok p tt te ρ Q xs acc S → uLcL ok p tt te ρ Q' xs acc S
  | [], acc, S, h => ⟨h.1, hQ _ _ h.2⟩
  | x :: xs, acc, S, ⟨h1, ρ2, e, h⟩ => ⟨h1, ρ2, e, mt _ _ _ _ _ _ (fun b S3 q => by
      cases b with
      | true => rw [if_pos rfl] at q ⊢; exact me _ _ _ _ _ _ (fun y S4 ⟨z, q⟩ => ⟨z, mono_lcL mt me hQ xs _ _ q⟩) (fun _ _ _ _ q => q) q
      | false => rw [if_neg Bool.false_ne_true] at q ⊢; exact mono_lcL mt me hQ xs _ _ q) (fun _ _ _ _ q => q) h⟩
theorem mono_lc {ui : UI} {p : Pat} {tt : UT} {te : UE} {vs : List Nat} (mi : MonoI ui) (mt : MonoT tt) (me : MonoE te) : MonoE (uLc ui p tt te vs) := fun ρ S Q Q' X X' hQ hX h => mi _ _ _ _ _ _ (fun wk S1 q => mono_lcL mt me hQ _ _ _ q) hX h
theorem x0_le {K : PySem.W.Frag} {L : Lk} {F I : Hp} {σ : L2.St} : XLe X0 (dnX K L F I W0 σ) := fun _ _ _ _ q => q.elim
theorem lc_runG {K : PySem.W.Frag} {L : Lk} {F H1 I1 : Hp} {S1 : Sto} {ρ : Rho} {σ : L2.St} {wk : Walk} {p : Pat} {tt : UT} {te : UE} {vs : List Nat} {Q : VK} {Qu : QV} {J : It} {D : Addr} (mt : MonoT tt) (me : MonoE te) (hv : ∀ i ∈ p.slots, i ∈ vs) (hd : Hd K L F H1 S1 I1) (sl : Slots K I1 σ ρ) (it : ItRep K L I1 J wk) (nD : H1 D = none)
    (h : uLcL wk.ok p tt te (wipeR ρ vs) Qu wk.xs [] S1) (hq : ∀ acc accv S H I', Hd K L (upd F D (.lst accv)) H S I' → Same I1 I' → RepL K I' acc accv → Qu (.lst acc) S → Q (.ref D) H) : ∃ Wv : Nat → Nat → Hp → Prop, (∃ m, Wv 0 m (upd H1 D (.lst []))) ∧ ∀ i m H, Wv i m H →
      (J.stop i H ∧ Q (.ref D) H) ∨ (J.go i H ∧ ∃ Nx : Hp → Prop, (∀ H', Nx H' → ∃ m', m' < m ∧ Wv (i + 1) m' H') ∧ ∀ x H', J.yld i H x H' → gPat K p x (wipe σ vs) H' fun σ2 H2 => wipe σ2 vs = wipe σ vs ∧ lT K W0 tt σ2 H2 fun b H3 =>
        if b = true then lE K W0 te σ2 H3 fun y H4 => ∃ acc, H4 D = some (.lst acc) ∧ acc.length < sizeLine ∧ Nx (upd H4 D (.lst (acc ++ [y]))) else Nx H3) := by
  refine ⟨fun i m H => m = wk.xs.length - i ∧ i ≤ wk.xs.length ∧ ∃ acc accv S I', Hd K L (upd F D (.lst accv)) H S I' ∧ Same I1 I' ∧ RepL K I' acc accv ∧ uLcL wk.ok p tt te (wipeR ρ vs) Qu (wk.xs.drop i) acc S,
    ⟨_, rfl, Nat.zero_le _, [], [], S1, I1, hd.frame nD, Same.refl _, rfl, h⟩, ?_⟩
  rintro i m H ⟨rfl, hi, acc, accv, S, I', hd', s', ra, h'⟩
  have fD : F D = none := hd.freeF nD
  by_cases hl : i < wk.xs.length
  · obtain ⟨x, ex⟩ : ∃ x, wk.xs[i]? = some x := ⟨_, List.getElem?_eq_getElem hl⟩
    have ed : wk.xs.drop i = x :: wk.xs.drop (i + 1) := by
      rw [List.drop_eq_getElem_cons hl]
      rw [List.getElem?_eq_getElem hl] at ex
      cases ex; rfl
    rw [ed] at h'
    obtain ⟨hok, ρ2, e2, hb⟩ := h'
    refine .inr ⟨it.go _ i H S I' hd' s' hok hl, _, fun H' n => ⟨wk.xs.length - (i + 1), by omega, n⟩, fun v H2 y => ?_⟩
    obtain ⟨I2, hd2, s2, r2⟩ := it.yld _ i H S I' v H2 x hd' s' hok ex y
    refine gPat_run hd2 p r2 ((sl.mono (s'.trans s2)).wipe (vs := vs)) e2 fun σ2 sl2 wp => ⟨(wp vs hv).trans (wipe_wipe σ vs), ?_⟩
    refine lT_then mt hd2 sl2 hb x0_le fun b S3 H3 I3 q3 hd3 s3 sl3 => ?_
    cases b with
    | true =>
      rw [if_pos rfl] at q3 ⊢
      refine lE_then me hd3 sl3 q3 x0_le fun z S4 w H4 I4 ⟨hz, q4⟩ hd4 s4 sl4 rz => ⟨accv, (hd4.fra D _ upd_same).1, by rw [ra.len]; exact hz, ?_⟩
      exact ⟨rfl, hl, acc ++ [z], accv ++ [w], S4, I4, hd4.refr, ((s'.trans s2).trans s3).trans s4, (ra.mono ((s2.trans s3).trans s4)).app (.cons rz rfl), q4⟩
    | false =>
      rw [if_neg Bool.false_ne_true] at q3 ⊢
      exact ⟨rfl, hl, acc, accv, S3, I3, hd3, (s'.trans s2).trans s3, ra.mono (s2.trans s3), q3⟩
  · have e : i = wk.xs.length := by omega
    rw [List.drop_eq_nil_of_le (by omega)] at h'
    exact .inl ⟨it.stop _ i H S I' hd' s' h'.1 e, hq acc accv S H I' hd' s' ra h'.2⟩
theorem lc_run {K : PySem.W.Frag} {L : Lk} {F H1 I1 : Hp} {S1 : Sto} {ρ : Rho} {σ : L2.St} {wk : Walk} {p : Pat} {tt : UT} {te : UE} {vs : List Nat} {Q : VK} {J : It} {D : Addr} (mt : MonoT tt) (me : MonoE te) (hv : ∀ i ∈ p.slots, i ∈ vs) (hd : Hd K L F H1 S1 I1) (sl : Slots K I1 σ ρ) (it : ItRep K L I1 J wk) (nD : H1 D = none)
    (h : uLcL wk.ok p tt te (wipeR ρ vs) (dnV K L F I1 Q) wk.xs [] S1) : ∃ Wv : Nat → Nat → Hp → Prop, (∃ m, Wv 0 m (upd H1 D (.lst []))) ∧ ∀ i m H, Wv i m H →
      (J.stop i H ∧ Q (.ref D) H) ∨ (J.go i H ∧ ∃ Nx : Hp → Prop, (∀ H', Nx H' → ∃ m', m' < m ∧ Wv (i + 1) m' H') ∧ ∀ x H', J.yld i H x H' → gPat K p x (wipe σ vs) H' fun σ2 H2 => wipe σ2 vs = wipe σ vs ∧ lT K W0 tt σ2 H2 fun b H3 =>
        if b = true then lE K W0 te σ2 H3 fun y H4 => ∃ acc, H4 D = some (.lst acc) ∧ acc.length < sizeLine ∧ Nx (upd H4 D (.lst (acc ++ [y]))) else Nx H3) :=
  lc_runG mt me hv hd sl it nD h fun acc accv S H I' hd' s' ra h' =>
    have iD : I' D = none := (hd'.fra D _ upd_same).2
    h' _ H _ (hd'.unframe (hd.freeF nD)) (s'.trans (upd_sub iD)) ⟨D, accv, rfl, upd_same, ra.mono (upd_sub iD)⟩
theorem Hd.unframeC {K : PySem.W.Frag} {L : Lk} {F H I : Hp} {S : Sto} {p : Addr} {o : HO} {c : Tr} (h : Hd K L (upd F p o) H S I) (n : F p = none) (r : CRep K I c o) : Hd K L F H (put S p c) I ∧ S p = none := by
  obtain ⟨hp, ip⟩ := h.fra p o upd_same
  refine ⟨⟨h.sub, h.lck, fun a c' e => ?_, fun b v e => ?_⟩, ?_⟩
  · by_cases ha : a = p
    · subst ha; rw [put_same] at e; cases e; exact ⟨ip, n, o, hp, r⟩
    · rw [put_ne ha] at e
      obtain ⟨h1, h2, o', h3, h4⟩ := h.cel a c' e
      exact ⟨h1, by rw [upd_ne ha] at h2; exact h2, o', h3, h4⟩
  · have hn : b ≠ p := ne_of_none e n
    exact h.fra b v (by rw [upd_ne hn]; exact e)
  · cases e : S p with
    | none => rfl
    | some c' => have z := (h.cel p c' e).2.1; rw [upd_same] at z; cases z
/-- the list of a comprehension, as a cell -/
def qCell (Q : QV) : QV := fun y S => ∃ xs, y = .lst xs ∧ ∀ p, S p = none → Q (.ref p) (put S p (.lst xs))
def uLcC (ui : UI) (p : Pat) (tt : UT) (te : UE) (vs : List Nat) : UE := fun ρ S Q X => ui ρ S (fun wk S1 => uLcL wk.ok p tt te (wipeR ρ vs) (qCell Q) wk.xs [] S1) X
theorem mono_qCell {Q Q' : QV} (h : ∀ y S, Q y S → Q' y S) : ∀ y S, qCell Q y S → qCell Q' y S := fun y S ⟨xs, e, q⟩ => ⟨xs, e, fun p n => h _ _ (q p n)⟩
theorem mono_lcC {ui : UI} {p : Pat} {tt : UT} {te : UE} {vs : List Nat} (mi : MonoI ui) (mt : MonoT tt) (me : MonoE te) : MonoE (uLcC ui p tt te vs) := fun ρ S Q Q' X X' hQ hX h => mi _ _ _ _ _ _ (fun wk S1 q => mono_lcL mt me (mono_qCell hQ) _ _ _ q) hX h
theorem lLcC {ui : UI} {p : Pat} {tt : UT} {te : UE} {vs : List Nat} (mi : MonoI ui) (mt : MonoT tt) (me : MonoE te) (hv : ∀ i ∈ p.slots, i ∈ vs) : ∀ σ H R, lE X.K W (uLcC ui p tt te vs) σ H R → tLc (lI X.K W ui) (gPat X.K p) (lT X.K W0 tt) (lE X.K W0 te) vs σ H R := fun σ H R ⟨L, F, S, I, ρ, hd, sl, h⟩ =>
  ⟨L, F, S, I, ρ, hd, sl, mi _ _ _ _ _ _ (fun wk S1 q J H1 I1 hd1 s1 it D nD => lc_runG mt me hv hd1 (sl.mono s1) it nD q fun acc accv S H' I' hd' s' ra ⟨xs, e, q⟩ => by
    cases e
    obtain ⟨hd2, n2⟩ := hd'.unframeC (c := .lst acc) (hd1.freeF nD) ⟨accv, rfl, ra⟩
    exact q D n2 _ _ _ hd2 (s1.trans s') rfl) (fun _ _ _ _ q => q) h⟩
theorem lLc {ui : UI} {p : Pat} {tt : UT} {te : UE} {vs : List Nat} (mi : MonoI ui) (mt : MonoT tt) (me : MonoE te) (hv : ∀ i ∈ p.slots, i ∈ vs) : ∀ σ H R, lE X.K W (uLc ui p tt te vs) σ H R → tLc (lI X.K W ui) (gPat X.K p) (lT X.K W0 tt) (lE X.K W0 te) vs σ H R := fun σ H R ⟨L, F, S, I, ρ, hd, sl, h⟩ =>
  ⟨L, F, S, I, ρ, hd, sl, mi _ _ _ _ _ _ (fun wk S1 q J H1 I1 hd1 s1 it D nD => lc_run mt me hv hd1 (sl.mono s1) it nD (mono_lcL mt me (dnV_up s1) _ _ _ q)) (fun _ _ _ _ q => q) h⟩
theorem e_lc {elt tg iter : Expr} {ifs : List Expr} {scope : Scope} {own : List (Str × Nat)} {pos : Pos} {ui : UI} {tt : UT} {te : UE} (p : Pat) (hc : X.calm = true) (hN : X.N.Nodup) (hi : TPI X W tg iter ui) (ok : BlkOk X.N X.env.scope scope own) (hv : ∀ i ∈ p.slots, i ∈ own.map (·.2))
    (hg : ∀ (s : Shared) (H : Hp) (C : Addr) (cl : List (Str × Addr)) (fp : List Addr), PG (X.blk s H scope (compEnvC scope cl C X.env) fp) tg (gPat X.K p)) (ht : ∀ (s : Shared) (H : Hp) (C : Addr) (cl : List (Str × Addr)) (fp : List Addr), TPTs (X.blk s H scope (compEnvC scope cl C X.env) fp) ifs tt)
    (he : ∀ (s : Shared) (H : Hp) (C : Addr) (cl : List (Str × Addr)) (fp : List Addr), TPE (X.blk s H scope (compEnvC scope cl C X.env) fp) W0 elt te) (hs : ∀ x, foldedSetIterable iter X.env x = pure x := by intro _; rfl) :
    TPE X W (.ListComp elt [⟨tg, iter, ifs, 0⟩] scope pos) (uLc ui p tt te (own.map (·.2))) :=
  ⟨⟨fun pins s σ H Q I h => (pe_lc hc hN hi.pe ok hg (fun s H C cl fp => (ht s H C cl fp).pe) (fun s H C cl fp => (he s H C cl fp).pe) hs).run pins s σ H Q I (lLc hi.mono (ht s H 0 [] []).mono (he s H 0 [] []).mono hv σ H Q h)⟩, mono_lc hi.mono (ht X.s_0 X.H_0 0 [] []).mono (he X.s_0 X.H_0 0 [] []).mono⟩
end
end KQ
namespace KQ
open PySem PySem.Spec PyProof.Rows L2 TL KB
/-! ### operators over trees -/
section
variable {K : PySem.W.Frag}
/-- what a flat tree is -/
theorem vw_eq_non {L : Lk} {F H I : Hp} {S : Sto} {x : Tr} {v : V} (hd : Hd K L F H S I) (r : Rep K I x v) (e : vw S x = .non) : v = .non := by
  have z := Rep.flat r (.inl e) hd
  rw [z] at e; subst e; exact r
theorem vw_eq_bl {L : Lk} {F H I : Hp} {S : Sto} {x : Tr} {v : V} {b : Bool} (hd : Hd K L F H S I) (r : Rep K I x v) (e : vw S x = .bl b) : v = .bl b := by
  have z := Rep.flat r (.inr (.inl ⟨b, e⟩)) hd
  rw [z] at e; subst e; exact r
theorem vw_eq_int {L : Lk} {F H I : Hp} {S : Sto} {x : Tr} {v : V} {n : Int} (hd : Hd K L F H S I) (r : Rep K I x v) (e : vw S x = .int n) : v = .int n := by
  have z := Rep.flat r (.inr (.inr (.inl ⟨n, e⟩))) hd
  rw [z] at e; subst e; exact r
theorem vw_eq_str {L : Lk} {F H I : Hp} {S : Sto} {x : Tr} {v : V} {n : Str} (hd : Hd K L F H S I) (r : Rep K I x v) (e : vw S x = .str n) : v = .str n := by
  have z := Rep.flat r (.inr (.inr (.inr ⟨n, e⟩))) hd
  rw [z] at e; subst e; exact r
theorem vw_eq_ty {L : Lk} {F H I : Hp} {S : Sto} {x : Tr} {v : V} {n : String} (hd : Hd K L F H S I) (r : Rep K I x v) (e : vw S x = .ty n) : v = .ty n := by
  rcases vw_cases S x with ⟨e1, _⟩ | ⟨a, c, rfl, ea, e1⟩
  · rw [e1] at e; subst e; exact r
  · obtain ⟨_, _, o, h1, h2⟩ := hd.cel a _ ea
    rw [e1] at e; subst e; exact h2.elim
theorem vw_eq_ref {L : Lk} {F H I : Hp} {S : Sto} {x : Tr} {v : V} {a : Addr} (hd : Hd K L F H S I) (r : Rep K I x v) (e : vw S x = .ref a) : v = .ref a := by
  rcases vw_cases S x with ⟨e1, _⟩ | ⟨b, c, rfl, ea, e1⟩
  · rw [e1] at e; subst e; exact r
  · obtain ⟨_, _, o, h1, h2⟩ := hd.cel b _ ea
    rw [e1] at e; subst e; exact h2.elim
end
def gAdd (x y z : Tr) : Prop := match x, y with
  | .int i, .int j => z = .int (i + j)
  | .str a, .str b => a.length + b.length ≤ sizeLine ∧ z = .str (a ++ b)
  | .lst xs, .lst ys => xs.length + ys.length ≤ sizeLine ∧ z = .lst (xs ++ ys)
  | .tup xs, .tup ys => xs.length + ys.length ≤ sizeLine ∧ z = .tup (xs ++ ys)
  | _, _ => False
def gInt2 (C : Int → Int → Prop) (f : Int → Int → Tr) (x y z : Tr) : Prop := match x, y with
  | .int i, .int j => C i j ∧ z = f i j
  | _, _ => False
abbrev gSub := gInt2 (fun _ _ => True) fun i j => .int (i - j)
def gMul (x y z : Tr) : Prop := match x, y with
  | .int i, .int j => (CMul i j ∨ CMulW i j) ∧ z = .int (i * j)
  | .lst xs, .int k => (-(2 ^ 63) ≤ k ∧ k < 2 ^ 63 ∧ xs.length * k.toNat ≤ sizeLine) ∧ z = .lst (List.replicate k.toNat xs).flatten
  | _, _ => False
abbrev gMod := gInt2 (fun _ j => 0 < j) fun i j => .int (i % j)
abbrev gFd := gInt2 CDivW fun i j => .int (i / j)
abbrev gPow := gInt2 CPow fun i j => .int (i ^ j.toNat)
abbrev gLt := gInt2 (fun _ _ => True) fun i j => .bl (decide (i < j))
abbrev gLe := gInt2 (fun _ _ => True) fun i j => .bl (decide (i ≤ j))
abbrev gGt := gInt2 (fun _ _ => True) fun i j => .bl (decide (j < i))
abbrev gGe := gInt2 (fun _ _ => True) fun i j => .bl (decide (j ≤ i))
section
variable {X : Cx} {K : PySem.W.Frag}
theorem opt_int2 {C : Int → Int → Prop} {f : Int → Int → Tr} {g : Int → Int → V} {r : R2} (hr : ∀ {i j H Q}, C i j → Q (g i j) H → r (.int i) (.int j) H Q) (hf : ∀ i j I, Rep K I (f i j) (g i j)) : OpT K r (gInt2 C f) := by
  intro L F H S I x y z v w R hd rx ry hg k
  unfold gInt2 at hg
  split at hg
  · rename_i i j e1 e2
    cases vw_eq_int hd rx e1
    cases vw_eq_int hd ry e2
    obtain ⟨c, rfl⟩ := hg
    exact hr c (k _ H I hd (Same.refl _) (hf i j I))
  · exact hg.elim
theorem o_sub : OpT K (rI0 fun i j => .int (i - j)) gSub := opt_int2 (f := fun i j => .int (i - j)) (g := fun i j => .int (i - j)) (fun _ q => ⟨_, _, rfl, rfl, q⟩) fun _ _ _ => rfl
theorem o_mod : OpT K KB.rMd gMod := opt_int2 (f := fun i j => .int (i % j)) (g := fun i j => .int (i % j)) (fun c q => ⟨_, _, rfl, rfl, c, q⟩) fun _ _ _ => rfl
theorem o_fd : OpT K KB.rFd gFd := opt_int2 (f := fun i j => .int (i / j)) (g := fun i j => .int (i / j)) (fun c q => ⟨_, _, rfl, rfl, c, q⟩) fun _ _ _ => rfl
theorem o_pow : OpT K (rI CPow fun i j => .int (i ^ j.toNat)) gPow := opt_int2 (f := fun i j => .int (i ^ j.toNat)) (g := fun i j => .int (i ^ j.toNat)) (fun c q => ⟨_, _, rfl, rfl, c, q⟩) fun _ _ _ => rfl
theorem o_lt : OpT K (rI0 fun i j => .bl (decide (i < j))) gLt := opt_int2 (f := fun i j => .bl (decide (i < j))) (g := fun i j => .bl (decide (i < j))) (fun _ q => ⟨_, _, rfl, rfl, q⟩) fun _ _ _ => rfl
theorem o_le : OpT K (rI0 fun i j => .bl (decide (i ≤ j))) gLe := opt_int2 (f := fun i j => .bl (decide (i ≤ j))) (g := fun i j => .bl (decide (i ≤ j))) (fun _ q => ⟨_, _, rfl, rfl, q⟩) fun _ _ _ => rfl
theorem o_gt : OpT K (rI0 fun i j => .bl (decide (j < i))) gGt := opt_int2 (f := fun i j => .bl (decide (j < i))) (g := fun i j => .bl (decide (j < i))) (fun _ q => ⟨_, _, rfl, rfl, q⟩) fun _ _ _ => rfl
theorem o_ge : OpT K (rI0 fun i j => .bl (decide (j ≤ i))) gGe := opt_int2 (f := fun i j => .bl (decide (j ≤ i))) (g := fun i j => .bl (decide (j ≤ i))) (fun _ q => ⟨_, _, rfl, rfl, q⟩) fun _ _ _ => rfl
/-- + of ints, texts, lists, tuples -/
def rAd2 (K : PySem.W.Frag) : R2 := fun x y H Q => KB.rAd x y H Q ∨ rCatA K x y H Q
theorem ad_op : OpR X (binaryOp .Add) (rAd2 X.K) := OpR.or ad_any op_catA
theorem o_add : OpT K (rAd2 K) gAdd := by
  intro L F H S I x y z v w R hd rx ry hg k
  unfold gAdd at hg
  split at hg
  · rename_i i j e1 e2
    cases vw_eq_int hd rx e1
    cases vw_eq_int hd ry e2
    subst hg
    exact .inl (.inl ⟨i, j, rfl, rfl, k _ H I hd (Same.refl _) rfl⟩)
  · rename_i a b e1 e2
    cases vw_eq_str hd rx e1
    cases vw_eq_str hd ry e2
    obtain ⟨c, rfl⟩ := hg
    exact .inl (.inr (.inl ⟨a, b, rfl, rfl, c, k _ H I hd (Same.refl _) rfl⟩))
  · rename_i xs ys e1 e2
    obtain ⟨a, vs, rfl, h1, h2⟩ := vw_lst hd rx e1
    obtain ⟨b, ws, rfl, h3, h4⟩ := vw_lst hd ry e2
    obtain ⟨c, rfl⟩ := hg
    refine .inl (.inr (.inr ⟨a, b, vs, ws, rfl, rfl, h1, h3, by rw [h2.len, h4.len]; exact c, fun p np => k _ _ _ (hd.imm np) (upd_sub (hd.freeI np)) ⟨p, vs ++ ws, rfl, upd_same, (h2.app h4).mono (upd_sub (hd.freeI np))⟩⟩))
  · rename_i xs ys e1 e2
    obtain ⟨a, vs, rfl, h1, h2⟩ := vw_tup hd rx e1
    obtain ⟨b, ws, rfl, h3, h4⟩ := vw_tup hd ry e2
    obtain ⟨c, rfl⟩ := hg
    have ex : ∀ {x : Tr} {u : V} {zs : List Tr}, Rep K I x u → vw S x = .tup zs → Rep K I (.tup zs) u := fun {x u zs} r e => by
      rcases vw_cases S x with ⟨e1, _⟩ | ⟨b, c, rfl, ea, e1⟩
      · rw [e1] at e; subst e; exact r
      · obtain ⟨_, _, o, _, q⟩ := hd.cel b _ ea
        rw [e1] at e; subst e; exact q.elim
    have z1 := h2.len
    have z2 := h4.len
    refine .inr ⟨a, b, vs, ws, rfl, rfl, h1, h3, by rw [z1, z2]; exact c, fun e => ?_, fun _ e => ?_, fun _ _ p np => ?_⟩
    · subst e
      have : xs = [] := List.length_eq_zero_iff.mp z1.symm
      subst this
      exact k _ H I hd (Same.refl _) (ex ry e2)
    · subst e
      have : ys = [] := List.length_eq_zero_iff.mp z2.symm
      subst this
      rw [List.append_nil] at k
      exact k _ H I hd (Same.refl _) (ex rx e1)
    · exact k _ _ _ (hd.imm np) (upd_sub (hd.freeI np)) ⟨p, vs ++ ws, rfl, .inl (.inl upd_same), (h2.app h4).mono (upd_sub (hd.freeI np))⟩
  · exact hg.elim
theorem RepL.flat {I : Hp} {xs : List Tr} {vs : List V} (h : RepL K I xs vs) : ∀ n, RepL K I (List.replicate n xs).flatten (List.replicate n vs).flatten
  | 0 => rfl
  | n + 1 => by
    rw [List.replicate_succ, List.replicate_succ, List.flatten_cons, List.flatten_cons]
    exact h.app (RepL.flat h n)
theorem o_mul : OpT K KB.rMl gMul := by
  intro L F H S I x y z v w R hd rx ry hg k
  unfold gMul at hg
  split at hg
  · rename_i i j e1 e2
    cases vw_eq_int hd rx e1
    cases vw_eq_int hd ry e2
    obtain ⟨c, rfl⟩ := hg
    exact .inl ⟨i, j, rfl, rfl, c, k _ H I hd (Same.refl _) rfl⟩
  · rename_i xs n e1 e2
    obtain ⟨a, vs, rfl, h1, h2⟩ := vw_lst hd rx e1
    cases vw_eq_int hd ry e2
    obtain ⟨⟨c1, c2, c3⟩, rfl⟩ := hg
    exact .inr ⟨a, n, vs, rfl, rfl, h1, c1, c2, by rw [h2.len]; exact c3, fun p np => k _ _ _ (hd.imm np) (upd_sub (hd.freeI np)) ⟨p, _, rfl, upd_same, (h2.flat _).mono (upd_sub (hd.freeI np))⟩⟩
  · exact hg.elim
/-! ### == of data -/
mutual
def toD : Tr → Option PyData
  | .non => some .none
  | .bl b => some (.bool b)
  | .int n => some (.int n)
  | .str z => some (.str z)
  | .lst xs => (toDs xs).map .list
  | .tup xs => (toDs xs).map .tuple
  | _ => none
def toDs : List Tr → Option (List PyData)
  | [] => some []
  | x :: xs => match toD x, toDs xs with
    | some d, some ds => some (d :: ds)
    | _, _ => none
end
def scalT : Tr → Bool
  | .non => true
  | .bl _ => true
  | .int _ => true
  | .str _ => true
  | _ => false
/-- x == y as the flat ones compare -/
def eqF : Tr → Tr → Option Bool
  | .non, .non => some true
  | .non, .int _ => some false
  | .int _, .non => some false
  | .non, .bl _ => some false
  | .bl _, .non => some false
  | .non, .str _ => some false
  | .str _, .non => some false
  | .int i, .int j => some (decide (i = j))
  | .bl a, .bl b => some (decide (a = b))
  | .str a, .str b => some (decide (a = b))
  | .int _, .str _ => some false
  | .str _, .int _ => some false
  | .bl _, .str _ => some false
  | .str _, .bl _ => some false
  | _, _ => none
def gEq (n : Bool) (x y z : Tr) : Prop := (∃ b, eqF x y = some b ∧ z = .bl (n ^^ b)) ∨ (eqF x y = none ∧ ∃ d e, toD x = some d ∧ toD y = some e ∧ SeqAt.shaped d = true ∧ SeqAt.shaped e = true ∧ z = .bl (n ^^ PyData.eqv d e))
mutual
theorem toD_dp {L : Lk} {F H I : Hp} {S : Sto} (hd : Hd K L F H S I) : ∀ {x : Tr} {d : PyData} {v : V}, toD x = some d → Rep K I x v → Dp K H v d
  | .non, d, v, e, r => by cases e; cases r; exact .non
  | .bl b, d, v, e, r => by cases e; cases r; exact .bl b
  | .int b, d, v, e, r => by cases e; cases r; exact .int b
  | .str b, d, v, e, r => by cases e; cases r; exact .str b
  | .lst xs, d, v, e, r => by
    unfold toD at e
    obtain ⟨ds, e1, rfl⟩ := Option.map_eq_some_iff.mp e
    obtain ⟨a, vs, rfl, h1, h2⟩ := vw_lst (x := .lst xs) hd r rfl
    exact .lst (.inl (.inl h1)) (toDs_dp hd e1 h2)
  | .tup xs, d, v, e, r => by
    unfold toD at e
    obtain ⟨ds, e1, rfl⟩ := Option.map_eq_some_iff.mp e
    obtain ⟨a, vs, rfl, h1, h2⟩ := vw_tup (x := .tup xs) hd r rfl
    exact .tup h1 (toDs_dp hd e1 h2)
theorem toDs_dp {L : Lk} {F H I : Hp} {S : Sto} (hd : Hd K L F H S I) : ∀ {xs : List Tr} {ds : List PyData} {vs : List V}, toDs xs = some ds → RepL K I xs vs → DpAll K H vs ds
  | [], ds, vs, e, r => by cases e; cases r; exact .nil
  | x :: xs, ds, vs, e, r => by
    unfold toDs at e
    split at e
    · rename_i d' ds' e1 e2
      cases e
      obtain ⟨v, ws, rfl, r1, r2⟩ := r
      exact .cons (toD_dp hd e1 r1) (toDs_dp hd e2 r2)
    · cases e
end
theorem toD_vw {L : Lk} {F H I : Hp} {S : Sto} {x : Tr} {d : PyData} {v : V} (hd : Hd K L F H S I) (e : toD (vw S x) = some d) (r : Rep K I x v) : Dp K H v d := by
  rcases vw_cases S x with ⟨e1, _⟩ | ⟨a, c, rfl, ea, e1⟩
  · rw [e1] at e; exact toD_dp hd e r
  · obtain ⟨_, _, o, h1, h2⟩ := hd.cel a _ ea
    rw [e1] at e
    cases r
    cases c with
    | lst xs =>
      unfold toD at e
      obtain ⟨ds, e1, rfl⟩ := Option.map_eq_some_iff.mp e
      obtain ⟨vs, rfl, h2⟩ := h2
      exact .lst (.inl (.inl h1)) (toDs_dp hd e1 h2)
    | _ => first | exact h2.elim | cases e
theorem eqF_scal {L : Lk} {F H I : Hp} {S : Sto} {x y : Tr} {v w : V} {b : Bool} (hd : Hd K L F H S I) (rx : Rep K I x v) (ry : Rep K I y w) (e : eqF (vw S x) (vw S y) = some b) : scal v w = true ∧ decide (v = w) = b := by
  unfold eqF at e
  split at e <;> cases e
  · rename_i e1 e2; cases vw_eq_non hd rx e1; cases vw_eq_non hd ry e2; exact ⟨rfl, rfl⟩
  · rename_i e1 e2; cases vw_eq_non hd rx e1; cases vw_eq_int hd ry e2; exact ⟨rfl, rfl⟩
  · rename_i e1 e2; cases vw_eq_int hd rx e1; cases vw_eq_non hd ry e2; exact ⟨rfl, rfl⟩
  · rename_i e1 e2; cases vw_eq_non hd rx e1; cases vw_eq_bl hd ry e2; exact ⟨rfl, rfl⟩
  · rename_i e1 e2; cases vw_eq_bl hd rx e1; cases vw_eq_non hd ry e2; exact ⟨rfl, rfl⟩
  · rename_i e1 e2; cases vw_eq_non hd rx e1; cases vw_eq_str hd ry e2; exact ⟨rfl, rfl⟩
  · rename_i e1 e2; cases vw_eq_str hd rx e1; cases vw_eq_non hd ry e2; exact ⟨rfl, rfl⟩
  · rename_i i j e1 e2; cases vw_eq_int hd rx e1; cases vw_eq_int hd ry e2; exact ⟨rfl, by simp only [V.int.injEq]⟩
  · rename_i i j e1 e2; cases vw_eq_bl hd rx e1; cases vw_eq_bl hd ry e2; exact ⟨rfl, by simp only [V.bl.injEq]⟩
  · rename_i i j e1 e2; cases vw_eq_str hd rx e1; cases vw_eq_str hd ry e2; exact ⟨rfl, by simp only [V.str.injEq]⟩
  · rename_i e1 e2; cases vw_eq_int hd rx e1; cases vw_eq_str hd ry e2; exact ⟨rfl, rfl⟩
  · rename_i e1 e2; cases vw_eq_str hd rx e1; cases vw_eq_int hd ry e2; exact ⟨rfl, rfl⟩
  · rename_i e1 e2; cases vw_eq_bl hd rx e1; cases vw_eq_str hd ry e2; exact ⟨rfl, rfl⟩
  · rename_i e1 e2; cases vw_eq_str hd rx e1; cases vw_eq_bl hd ry e2; exact ⟨rfl, rfl⟩
def rEq2 (K : PySem.W.Frag) (n : Bool) : R2 := fun x y H Q => (scal x y = true ∧ Q (.bl (n ^^ decide (x = y))) H) ∨ (∃ d e, Dp K H x d ∧ Dp K H y e ∧ SeqAt.shaped d = true ∧ SeqAt.shaped e = true ∧ Q (.bl (n ^^ PyData.eqv d e)) H)
theorem eq_op {k : Nat} (hr : Room k X.A) : OpR X (compareOp .Eq) (rEq2 X.K false) := KB.OpR.wk (OpR.or op_eq (op_eqD hr.units)) fun x y H Q h => by
  rcases h with ⟨hx, q⟩ | ⟨d, e, a, b, c, f, q⟩
  · exact .inl ⟨hx, by simpa using q⟩
  · exact .inr ⟨d, e, a, b, c, f, by simpa using q⟩
theorem ne_op {k : Nat} (hr : Room k X.A) : OpR X (compareOp .NotEq) (rEq2 X.K true) := KB.OpR.wk (OpR.or op_ne (op_neD hr.units)) fun x y H Q h => by
  rcases h with ⟨hx, q⟩ | ⟨d, e, a, b, c, f, q⟩
  · exact .inl ⟨hx, by simpa using q⟩
  · exact .inr ⟨d, e, a, b, c, f, by simpa using q⟩
theorem o_eq {n : Bool} : OpT K (rEq2 K n) (gEq n) := by
  intro L F H S I x y z v w R hd rx ry hg k
  rcases hg with ⟨b, e, rfl⟩ | ⟨_, d, e, e1, e2, s1, s2, rfl⟩
  · obtain ⟨h1, h2⟩ := eqF_scal hd rx ry e
    exact .inl ⟨h1, by rw [h2]; exact k _ H I hd (Same.refl _) rfl⟩
  · exact .inr ⟨d, e, toD_vw hd e1 rx, toD_vw hd e2 ry, s1, s2, k _ H I hd (Same.refl _) rfl⟩
/-! ### is -/
def isKT : Tr → Bool
  | .non => true
  | .bl _ => true
  | _ => false
def isT : Tr → Tr → Bool
  | .non, .non => true
  | .bl a, .bl b => a == b
  | _, _ => false
def gIs (n : Bool) (x y z : Tr) : Prop := isKT y = true ∧ z = .bl (n ^^ isT x y)
theorem vw_kind {L : Lk} {F H I : Hp} {S : Sto} {x : Tr} {v : V} (hd : Hd K L F H S I) (r : Rep K I x v) : (v = .non → vw S x = .non) ∧ (∀ b, v = .bl b → vw S x = .bl b) := by
  rcases vw_cases S x with ⟨e1, _⟩ | ⟨a, c, rfl, ea, e1⟩
  · rw [e1]
    cases x with
    | non => exact ⟨fun _ => rfl, fun b e => (by cases r; cases e)⟩
    | bl b => exact ⟨fun e => (by cases r; cases e), fun b e => (by cases r; cases e; rfl)⟩
    | int n => cases r; exact ⟨fun e => (nomatch e), fun b e => (nomatch e)⟩
    | str n => cases r; exact ⟨fun e => (nomatch e), fun b e => (nomatch e)⟩
    | ty n => cases r; exact ⟨fun e => (nomatch e), fun b e => (nomatch e)⟩
    | ref n => cases r; exact ⟨fun e => (nomatch e), fun b e => (nomatch e)⟩
    | scr ns => obtain ⟨a, rfl, _⟩ := r; exact ⟨fun e => (nomatch e), fun b e => (nomatch e)⟩
    | exc a d c fs xs => obtain ⟨rfl, _⟩ := r; exact ⟨fun e => (nomatch e), fun b e => (nomatch e)⟩
    | lst xs => obtain ⟨a, vs, rfl, _⟩ := r; exact ⟨fun e => (nomatch e), fun b e => (nomatch e)⟩
    | tup xs => obtain ⟨a, vs, rfl, _⟩ := r; exact ⟨fun e => (nomatch e), fun b e => (nomatch e)⟩
    | dic ks xs => obtain ⟨a, vs, rfl, _⟩ := r; exact ⟨fun e => (nomatch e), fun b e => (nomatch e)⟩
    | ins C fs xs => obtain ⟨a, dx, vs, rfl, _⟩ := r; exact ⟨fun e => (nomatch e), fun b e => (nomatch e)⟩
    | opq q => obtain ⟨a, rfl, _⟩ := r; exact ⟨fun e => (nomatch e), fun b e => (nomatch e)⟩
    | sem c => obtain ⟨a, o, rfl, _⟩ := r; exact ⟨fun e => (nomatch e), fun b e => (nomatch e)⟩
  · cases r
    exact ⟨fun e => (nomatch e), fun b e => (nomatch e)⟩
theorem o_is {n : Bool} : OpT K (KB.rIs n) (gIs n) := by
  intro L F H S I x y z v w R hd rx ry hg k
  obtain ⟨hk, rfl⟩ := hg
  unfold isKT at hk
  split at hk
  · rename_i e2
    cases vw_eq_non hd ry e2
    refine ⟨rfl, ?_⟩
    have e : decide (v = V.non) = isT (vw S x) (vw S y) := by
      rw [e2]
      by_cases h : v = .non
      · rw [decide_eq_true h, (vw_kind hd rx).1 h]; rfl
      · rw [decide_eq_false h]
        cases z : vw S x <;> first | rfl | exact absurd (vw_eq_non hd rx z) h
    rw [e]
    exact k _ H I hd (Same.refl _) rfl
  · rename_i b e2
    cases vw_eq_bl hd ry e2
    refine ⟨rfl, ?_⟩
    have e : decide (v = V.bl b) = isT (vw S x) (vw S y) := by
      rw [e2]
      by_cases h : v = .bl b
      · rw [decide_eq_true h, (vw_kind hd rx).2 b h]
        show true = (b == b)
        cases b <;> rfl
      · rw [decide_eq_false h]
        cases z : vw S x with
        | bl c =>
          have := vw_eq_bl hd rx z
          show false = (c == b)
          symm
          rw [beq_eq_false_iff_ne]
          intro hc
          subst hc
          exact h this
        | _ => rfl
    rw [e]
    exact k _ H I hd (Same.refl _) rfl
  · cases hk
/-! ### in -/
def flatT : Tr → Option V
  | .non => some .non
  | .bl b => some (.bl b)
  | .int n => some (.int n)
  | .str z => some (.str z)
  | _ => none
def flatTs : List Tr → Option (List V)
  | [] => some []
  | x :: xs => match flatT x, flatTs xs with
    | some v, some vs => some (v :: vs)
    | _, _ => none
def hasK (k : Key) (ks : List Key) : Bool := ks.any fun j => decide (j = k)
theorem hasK_iff {k : Key} {ks : List Key} : hasK k ks = true ↔ k ∈ ks := by
  unfold hasK
  rw [List.any_eq_true]
  exact ⟨fun ⟨j, h, e⟩ => of_decide_eq_true e ▸ h, fun h => ⟨k, h, decide_eq_true rfl⟩⟩
def keyT : Tr → Option Key
  | .int n => some (.inl n)
  | .str z => some (.inr z)
  | _ => none
def gIn (n : Bool) (x y z : Tr) : Prop := match y with
  | .str t => ∃ c, x = .str ⟨#[c]⟩ ∧ z = .bl (n ^^ decide (c ∈ t.cps.toList))
  | .lst ys => ∃ v vs, flatT x = some v ∧ flatTs ys = some vs ∧ z = .bl (n ^^ inV v vs)
  | .tup ys => ∃ v vs, flatT x = some v ∧ flatTs ys = some vs ∧ z = .bl (n ^^ inV v vs)
  | .dic ks xs => ∃ k, keyT x = some k ∧ z = .bl (n ^^ hasK k ks)
  | _ => False
theorem flatT_rep {L : Lk} {F H I : Hp} {S : Sto} {x : Tr} {v u : V} (hd : Hd K L F H S I) (r : Rep K I x u) (e : flatT (vw S x) = some v) : u = v ∧ flatV v = true := by
  cases z : vw S x with
  | non => rw [z] at e; cases e; exact ⟨vw_eq_non hd r z, rfl⟩
  | bl b => rw [z] at e; cases e; exact ⟨vw_eq_bl hd r z, rfl⟩
  | int b => rw [z] at e; cases e; exact ⟨vw_eq_int hd r z, rfl⟩
  | str b => rw [z] at e; cases e; exact ⟨vw_eq_str hd r z, rfl⟩
  | _ => rw [z] at e; cases e
theorem flatT_rep0 {I : Hp} {x : Tr} {v u : V} (r : Rep K I x u) (e : flatT x = some v) : u = v ∧ flatV v = true := by
  cases x with
  | non => cases e; exact ⟨r, rfl⟩
  | bl b => cases e; exact ⟨r, rfl⟩
  | int b => cases e; exact ⟨r, rfl⟩
  | str b => cases e; exact ⟨r, rfl⟩
  | _ => cases e
theorem flatTs_rep {I : Hp} : ∀ {xs : List Tr} {vs us : List V}, RepL K I xs us → flatTs xs = some vs → us = vs ∧ vs.all flatV = true
  | [], vs, us, r, e => by cases e; cases r; exact ⟨rfl, rfl⟩
  | x :: xs, vs, us, r, e => by
    unfold flatTs at e
    split at e
    · rename_i v vs' e1 e2
      cases e
      obtain ⟨u, ws, rfl, r1, r2⟩ := r
      obtain ⟨rfl, h1⟩ := flatT_rep0 r1 e1
      obtain ⟨rfl, h2⟩ := flatTs_rep r2 e2
      exact ⟨rfl, by simp [h1, h2]⟩
    · cases e
theorem keyT_rep {L : Lk} {F H I : Hp} {S : Sto} {x : Tr} {v : V} {k : Key} (hd : Hd K L F H S I) (r : Rep K I x v) (e : keyT (vw S x) = some k) : v = kV k := by
  cases z : vw S x with
  | int b => rw [z] at e; cases e; exact vw_eq_int hd r z
  | str b => rw [z] at e; cases e; exact vw_eq_str hd r z
  | _ => rw [z] at e; cases e
/-- the value of a key -/
def kget (k : Key) : List Key → List Tr → Option Tr
  | j :: ks, x :: xs => if k = j then some x else kget k ks xs
  | _, _ => none
theorem kget_val {I : Hp} {k : Key} : ∀ {ks : List Key} {xs : List Tr} {vs : List V}, ks.length = xs.length → RepL K I xs vs → (∀ x, kget k ks xs = some x → ∃ v, valV (ks.zip vs) k = some v ∧ Rep K I x v) ∧ ((valV (ks.zip vs) k).isSome = hasK k ks)
  | [], [], vs, _, r => by cases r; exact ⟨fun x e => (nomatch e), rfl⟩
  | [], _ :: _, vs, e, r => nomatch e
  | _ :: _, [], vs, e, r => nomatch e
  | j :: ks, y :: xs, vs, e, r => by
    obtain ⟨v, ws, rfl, r1, r2⟩ := r
    have ih := kget_val (k := k) (ks := ks) (by simpa using e) r2
    by_cases h : k = j
    · subst h
      have z : valV ((k :: ks).zip (v :: ws)) k = some v := by simp [valV, List.find?]
      exact ⟨fun x e => by simp [kget] at e; subst e; exact ⟨v, z, r1⟩, by rw [z]; simp [hasK]⟩
    · have z : valV ((j :: ks).zip (v :: ws)) k = valV (ks.zip ws) k := by simp [valV, List.find?, Ne.symm h]
      rw [z]
      exact ⟨fun x e => ih.1 x (by simpa [kget, h] using e), by rw [ih.2]; simp [hasK, Ne.symm h]⟩
def rIn2 (K : PySem.W.Frag) (n : Bool) : R2 := fun x y H Q => (∃ (c : Nat) (z : Str), x = .str ⟨#[c]⟩ ∧ y = .str z ∧ Q (.bl (n ^^ decide (c ∈ z.cps.toList))) H) ∨
  (∃ p xs, y = .ref p ∧ (SqL K H p xs ∨ SqT K H p xs) ∧ flatV x = true ∧ xs.all flatV = true ∧ Q (.bl (n ^^ inV x xs)) H) ∨ (∃ a o, y = .ref a ∧ DGet H a x o ∧ Q (.bl (n ^^ o.isSome)) H)
theorem in_op {k : Nat} (hr : Room k X.A) : OpR X (compareOp .In) (rIn2 X.K false) := by
  intro pins s σ H x y v u Q I rx ry h
  rcases h with ⟨c, z, rfl, rfl, q⟩ | ⟨p, xs, rfl, hp, a, b, q⟩ | ⟨a, o, rfl, g, q⟩
  · exact op_in_sign pins s σ H _ _ v u Q I rx ry ⟨c, z, rfl, rfl, by simpa using q⟩
  · exact op_in_seq pins s σ H _ _ v u Q I rx ry ⟨p, xs, rfl, hp, a, b, by simpa using q⟩
  · cases ry
    exact d_in (hu_of hr) I g rx fun s3 I3 => ⟨.bl o.isSome, H, I3, rfl, by simpa using q⟩
theorem notin_op {k : Nat} (hr : Room k X.A) : OpR X (compareOp .NotIn) (rIn2 X.K true) := by
  intro pins s σ H x y v u Q I rx ry h
  rcases h with ⟨c, z, rfl, rfl, q⟩ | ⟨p, xs, rfl, hp, a, b, q⟩ | ⟨a, o, rfl, g, q⟩
  · exact op_notIn_sign pins s σ H _ _ v u Q I rx ry ⟨c, z, rfl, rfl, by simpa using q⟩
  · exact op_notIn_seq pins s σ H _ _ v u Q I rx ry ⟨p, xs, rfl, hp, a, b, by simpa using q⟩
  · cases ry
    exact d_notIn (hu_of hr) I g rx fun s3 I3 => ⟨.bl (!o.isSome), H, I3, rfl, by simpa using q⟩
theorem o_in {n : Bool} : OpT K (rIn2 K n) (gIn n) := by
  intro L F H S I x y z v w R hd rx ry hg k
  unfold gIn at hg
  split at hg
  · rename_i t e2
    obtain ⟨c, e1, rfl⟩ := hg
    cases vw_eq_str hd rx e1
    cases vw_eq_str hd ry e2
    exact .inl ⟨c, t, rfl, rfl, k _ H I hd (Same.refl _) rfl⟩
  · rename_i ys e2
    obtain ⟨u, us, e1, e3, rfl⟩ := hg
    obtain ⟨a, vs, rfl, h1, h2⟩ := vw_lst hd ry e2
    obtain ⟨rfl, f1⟩ := flatT_rep hd rx e1
    obtain ⟨rfl, f2⟩ := flatTs_rep h2 e3
    exact .inr (.inl ⟨a, vs, rfl, .inl (.inl (.inl h1)), f1, f2, k _ H I hd (Same.refl _) rfl⟩)
  · rename_i ys e2
    obtain ⟨u, us, e1, e3, rfl⟩ := hg
    obtain ⟨a, vs, rfl, h1, h2⟩ := vw_tup hd ry e2
    obtain ⟨rfl, f1⟩ := flatT_rep hd rx e1
    obtain ⟨rfl, f2⟩ := flatTs_rep h2 e3
    exact .inr (.inl ⟨a, vs, rfl, .inr h1, f1, f2, k _ H I hd (Same.refl _) rfl⟩)
  · rename_i ks xs e2
    obtain ⟨key, e1, rfl⟩ := hg
    obtain ⟨a, vs, rfl, h1, hl, h2⟩ := vw_dic hd ry e2
    cases keyT_rep hd rx e1
    exact .inr (.inr ⟨a, _, rfl, .inl ⟨_, key, h1, rfl, rfl⟩, by rw [(kget_val hl h2).2]; exact k _ H I hd (Same.refl _) rfl⟩)
  · exact hg.elim
/-! ### x[i] -/
def gIx (x y z : Tr) : Prop := match x with
  | .str t => t.length ≤ sizeLine ∧ ∃ i c, y = .int i ∧ atI t.cps.toList i = some c ∧ z = .str ⟨#[c]⟩
  | .lst xs => ∃ i, y = .int i ∧ atI xs i = some z
  | .scr ns => ∃ i, y = .int i ∧ ∃ n, atI ns i = some n ∧ z = .int n
  | .tup xs => ∃ i, y = .int i ∧ atI xs i = some z
  | .dic ks xs => ∃ k, keyT y = some k ∧ kget k ks xs = some z
  | _ => False
def rIx2 (K : PySem.W.Frag) : R2 := fun x y H Q => rIxL K x y H Q ∨ rIxT K x y H Q ∨ rIxS x y H Q ∨ (∃ a v, x = .ref a ∧ DGet H a y (some v) ∧ Q v H)
theorem ix_op {k : Nat} (hr : Room k X.A) : IxR X (rIx2 X.K) := by
  intro value slice pins s σ H x y v u Q I rx ry h hs
  rcases h with h | h | h | ⟨a, z, rfl, g, q⟩
  · exact ix_list value slice pins s σ H x y v u Q I rx ry h hs
  · exact ix_tup value slice pins s σ H x y v u Q I rx ry h hs
  · exact ix_str value slice pins s σ H x y v u Q I rx ry h hs
  · cases rx
    have hT := dict_typeIs I g
    have fin : wpAny (model X.prog X.w) X.A (subscripted slice false (Value.ref a) u) (fun r s3 => wpAny (model X.prog X.w) X.A (letTemporaryGo value (Value.ref a) r >>= fun _ => pure r) (EP X pins σ Q) X.xe s3) X.xe s := by
      rw [hs]
      exact wpAny_operating (d_getItem (hu_of hr) I g ry fun w' s3 I3 rw' => wpAny_bind (wpAny_letTemporaryGo (wpAny_pure ⟨z, H, I3, rw', q⟩)))
    unfold subscriptTail
    rw [getitemInPython_of_ne hT.not_modules]
    refine wpAny_bind (wpAny_bind (wpAny_specialOf hT PySem.F.slot_dict_getitem.lookup ?_))
    first | exact wpAny_pure (wpAny_bind fin) | exact wpAny_bind (wpAny_pure (wpAny_bind fin)) | exact wpAny_bind fin
theorem atI_rep {I : Hp} {xs : List Tr} {vs : List V} {i : Int} {x : Tr} (r : RepL K I xs vs) (e : atI xs i = some x) : ∃ v, atI vs i = some v ∧ Rep K I x v := by
  unfold atI at e ⊢
  rw [r.len]
  obtain ⟨j, e1, e2⟩ := Option.bind_eq_some_iff.mp e
  obtain ⟨v, e3, r3⟩ := r.get' e2
  exact ⟨v, by rw [e1]; exact e3, r3⟩
theorem o_ix : OpT K (rIx2 K) gIx := by
  intro L F H S I x y z v w R hd rx ry hg k
  unfold gIx at hg
  split at hg
  · rename_i t e1
    obtain ⟨hl, i, c, e2, ha, rfl⟩ := hg
    cases vw_eq_str hd rx e1
    cases vw_eq_int hd ry e2
    exact .inr (.inr (.inl ⟨t, i, c, rfl, rfl, hl, ha, k _ H I hd (Same.refl _) rfl⟩))
  · rename_i xs e1
    obtain ⟨i, e2, ha⟩ := hg
    obtain ⟨a, vs, rfl, h1, h2⟩ := vw_lst hd rx e1
    cases vw_eq_int hd ry e2
    obtain ⟨u, ha, r⟩ := atI_rep h2 ha
    exact .inl ⟨a, vs, i, u, rfl, rfl, .inl (.inl h1), ha, k _ H I hd (Same.refl _) r⟩
  · rename_i ns e1
    obtain ⟨i, e2, n, ha, rfl⟩ := hg
    obtain ⟨a, rfl, h1⟩ := vw_scr hd rx e1
    cases vw_eq_int hd ry e2
    refine .inl ⟨a, _, i, .int n, rfl, rfl, h1, ?_, k _ H I hd (Same.refl _) rfl⟩
    unfold atI at ha ⊢
    obtain ⟨j, e3, e4⟩ := Option.bind_eq_some_iff.mp ha
    rw [List.length_map, e3]
    show (ns.map V.int)[j]? = _
    rw [List.getElem?_map, e4]; rfl
  · rename_i xs e1
    obtain ⟨i, e2, ha⟩ := hg
    obtain ⟨a, vs, rfl, h1, h2⟩ := vw_tup hd rx e1
    cases vw_eq_int hd ry e2
    obtain ⟨u, ha, r⟩ := atI_rep h2 ha
    exact .inr (.inl ⟨a, vs, i, u, rfl, rfl, h1, ha, k _ H I hd (Same.refl _) r⟩)
  · rename_i ks xs e1
    obtain ⟨key, e2, ha⟩ := hg
    obtain ⟨a, vs, rfl, h1, hl, h2⟩ := vw_dic hd rx e1
    cases keyT_rep hd ry e2
    obtain ⟨u, ha, r⟩ := (kget_val hl h2).1 z ha
    exact .inr (.inr (.inr ⟨a, u, rfl, .inl ⟨_, key, h1, rfl, ha.symm⟩, k _ H I hd (Same.refl _) r⟩))
  · exact hg.elim
end
end KQ
namespace KQ
open PySem PySem.Spec PyProof.Rows L2 TL KB
section
variable {K : PySem.W.Frag} {X : Cx} {W : WX}
/-! ### unary minus -/
def gNeg (x z : Tr) : Prop := match x with
  | .int i => z = .int (-i)
  | _ => False
theorem u_neg : UnT K (rU fun i => .int (-i)) gNeg := by
  intro L F H S I x z v R hd rx hg k
  unfold gNeg at hg
  split at hg
  · rename_i i e
    cases vw_eq_int hd rx e
    subst hg
    exact ⟨i, rfl, k _ H I hd (Same.refl _) rfl⟩
  · exact hg.elim
/-! ### slices -/
structure TPO (X : Cx) (W : WX) (e : Option Expr) (t : Rho → Sto → (Option Int → Sto → Prop) → QX → Prop) : Prop where
  pe : PO X e (fun σ H R => ∃ L F S I ρ, Hd X.K L F H S I ∧ Slots X.K I σ ρ ∧ t ρ S (fun o S' => ∀ H' I', Hd X.K L F H' S' I' → Same I I' → R o H') (dnX X.K L F I W σ))
  mono : ∀ ρ S (Q Q' : Option Int → Sto → Prop) X X', (∀ y S, Q y S → Q' y S) → XLe X X' → t ρ S Q X → t ρ S Q' X'
def uPart (te : UE) : Rho → Sto → (Option Int → Sto → Prop) → QX → Prop := fun ρ S Q X => te ρ S (fun x S1 => ∃ i, vw S1 x = .int i ∧ Q (some i) S1) X
def uNoPart : Rho → Sto → (Option Int → Sto → Prop) → QX → Prop := fun ρ S Q X => Q none S
theorem wkO {e : Option Expr} {t t' : TO} (h : PO X e t) (w : ∀ σ H Q, t' σ H Q → t σ H Q) : PO X e t' := ⟨fun pins s σ H Q I q => h.run pins s σ H Q I (w _ _ _ q)⟩
theorem o_some {e : Expr} {te : UE} (he : TPE X W e te) : TPO X W (some e) (uPart te) :=
  ⟨wkO (po_some he.pe) fun σ H R ⟨L, F, S, I, ρ, hd, sl, h⟩ => lE_then he.mono hd sl h (fun _ _ _ _ h => h) fun x S1 v H1 I1 ⟨i, e, q⟩ hd1 s1 sl1 r => ⟨i, vw_eq_int hd1 r e, q H1 I1 hd1 s1⟩,
    fun ρ S Q Q' X X' hQ hX h => he.mono _ _ _ _ _ _ (fun x S1 ⟨i, e, q⟩ => ⟨i, e, hQ _ _ q⟩) hX h⟩
theorem o_none : TPO X W none uNoPart :=
  ⟨wkO po_none fun σ H R ⟨L, F, S, I, ρ, hd, sl, h⟩ => h H I hd (Same.refl _), fun ρ S Q Q' X X' hQ hX h => hQ _ _ h⟩
def cutT (xs : List Tr) (lo hi : Option Int) : List Tr := (xs.drop (HT.sIx xs.length 0 lo)).take (HT.sIx xs.length xs.length hi - HT.sIx xs.length 0 lo)
def gSl (x : Tr) (lo hi : Option Int) (z : Tr) : Prop := match x with
  | .str t => t.length ≤ sizeLine ∧ z = .str (cutS t lo hi)
  | .lst xs => z = .lst (cutT xs lo hi)
  | .scr ns => z = .lst (cutT (ns.map Tr.int) lo hi)
  | .tup xs => z = .tup (cutT xs lo hi)
  | _ => False
def rSl3 (K : PySem.W.Frag) : V → Option Int → Option Int → Hp → VK → Prop := fun x lo hi H Q => (∃ z, x = .str z ∧ z.length ≤ sizeLine ∧ Q (.str (cutS z lo hi)) H) ∨ (∃ a xs, x = .ref a ∧ SqL K H a xs ∧ ∀ p, H p = none → Q (.ref p) (upd H p (.lst (cutV xs lo hi)))) ∨ L2.rSlA K x lo hi H Q
theorem sl_op : SlR X (rSl3 X.K) := by
  refine KB.SlR.wk (SlR.or sl_str (SlR.or sl_list sl_tupA)) fun x a b H Q h => ?_
  rcases h with h | h | h
  · exact .inl h
  · exact .inr (.inl h)
  · exact .inr (.inr h)
theorem cut_rep {I : Hp} {xs : List Tr} {vs : List V} (r : RepL K I xs vs) (lo hi : Option Int) : RepL K I (cutT xs lo hi) (cutV vs lo hi) := by
  unfold cutT cutV
  rw [r.len]
  exact (r.drop _).take _
def uSl (te : UE) (tl th : Rho → Sto → (Option Int → Sto → Prop) → QX → Prop) : UE := fun ρ S Q X => te ρ S (fun x S1 => tl ρ S1 (fun l S2 => th ρ S2 (fun u S3 => ∃ z, gSl (vw S3 x) l u z ∧ Q z S3) X) X) X
theorem e_slice {e : Expr} {lo hi : Option Expr} {te : UE} {tl th : Rho → Sto → (Option Int → Sto → Prop) → QX → Prop} {p2 pos : Pos} (he : TPE X W e te) (hl : TPO X W lo tl) (hu : TPO X W hi th) : TPE X W (.Subscript e (.Slice lo hi none p2) pos) (uSl te tl th) :=
  ⟨wkE (pe_slice sl_op he.pe hl.pe hu.pe) fun σ H R ⟨L, F, S, I, ρ, hd, sl, h⟩ => lE_then he.mono hd sl h (fun _ _ _ _ h => h) fun x S1 v H1 I1 q hd1 s1 sl1 r => by
    refine ⟨L, F, S1, I1, ρ, hd1, sl1, hl.mono _ _ _ _ _ _ (fun l S2 q2 H2 I2 hd2 s2 => ?_) (dnX_up s1) q⟩
    refine ⟨L, F, S2, I2, ρ, hd2, sl1.mono s2, hu.mono _ _ _ _ _ _ (fun u S3 q3 H3 I3 hd3 s3 => ?_) (dnX_up (s1.trans s2)) q2⟩
    obtain ⟨z, hg, q⟩ := q3
    have r3 := r.mono (s2.trans s3)
    have sm := (s1.trans s2).trans s3
    unfold gSl at hg
    split at hg
    · rename_i t e
      cases vw_eq_str hd3 r3 e
      obtain ⟨c, rfl⟩ := hg
      exact .inl ⟨t, rfl, c, q _ H3 I3 hd3 sm rfl⟩
    · rename_i xs e
      obtain ⟨a, vs, rfl, h1, h2⟩ := vw_lst hd3 r3 e
      subst hg
      exact .inr (.inl ⟨a, vs, rfl, .inl (.inl h1), fun p np => q _ _ _ (hd3.imm np) (sm.trans (upd_sub (hd3.freeI np))) ⟨p, _, rfl, upd_same, (cut_rep h2 l u).mono (upd_sub (hd3.freeI np))⟩⟩)
    · rename_i ns e
      obtain ⟨a, rfl, h1⟩ := vw_scr hd3 r3 e
      subst hg
      exact .inr (.inl ⟨a, _, rfl, h1, fun p np => q _ _ _ (hd3.imm np) (sm.trans (upd_sub (hd3.freeI np))) ⟨p, _, rfl, upd_same, (cut_rep (RepL.ints ns) l u).mono (upd_sub (hd3.freeI np))⟩⟩)
    · rename_i xs e
      obtain ⟨a, vs, e1, h1, h2⟩ := vw_tup hd3 r3 e
      subst e1
      subst hg
      refine .inr (.inr ⟨a, vs, rfl, h1, fun hw => ?_, fun hw p np => ?_⟩)
      · have ez : cutT xs l u = xs := by
          rw [h2.len] at hw
          unfold cutT
          rw [hw.1, hw.2, List.drop_zero, Nat.sub_zero, List.take_length]
        rw [ez] at q
        refine q _ H3 I3 hd3 sm ?_
        rcases vw_cases S3 x with ⟨e1, _⟩ | ⟨b, c, rfl, ea, e1⟩
        · rw [e1] at e; subst e; exact r3
        · obtain ⟨_, _, o, _, z⟩ := hd3.cel b _ ea
          rw [e1] at e; subst e; exact z.elim
      · exact q _ _ _ (hd3.imm np) (sm.trans (upd_sub (hd3.freeI np))) ⟨p, _, rfl, .inl (.inl upd_same), (cut_rep h2 l u).mono (upd_sub (hd3.freeI np))⟩
    · exact hg.elim, fun ρ S Q Q' X X' hQ hX h => he.mono _ _ _ _ _ _ (fun x S1 q => hl.mono _ _ _ _ _ _ (fun l S2 q => hu.mono _ _ _ _ _ _ (fun u S3 ⟨z, hg, q⟩ => ⟨z, hg, hQ _ _ q⟩) hX q) hX q) hX h⟩
/-! ### built-ins -/
def gLen (xs : List Tr) (z : Tr) : Prop := match xs with
  | [.str t] => t.length ≤ sizeLine ∧ z = .int t.length
  | [.lst ys] => z = .int ys.length
  | [.scr ys] => z = .int ys.length
  | [.tup ys] => z = .int ys.length
  | [.dic ks ys] => z = .int ks.length
  | _ => False
theorem RepL.one {I : Hp} {x : Tr} {vs : List V} (r : RepL K I [x] vs) : ∃ v, vs = [v] ∧ Rep K I x v := by
  obtain ⟨v, ws, rfl, r1, r2⟩ := r
  cases r2
  exact ⟨v, rfl, r1⟩
theorem RepL.two {I : Hp} {x y : Tr} {vs : List V} (r : RepL K I [x, y] vs) : ∃ v w, vs = [v, w] ∧ Rep K I x v ∧ Rep K I y w := by
  obtain ⟨v, ws, rfl, r1, r2⟩ := r
  obtain ⟨w, rfl, r3⟩ := RepL.one r2
  exact ⟨v, w, rfl, r1, r3⟩
theorem map1 {S : Sto} {xs : List Tr} {y : Tr} (e : xs.map (vw S) = [y]) : ∃ x, xs = [x] ∧ vw S x = y := by
  cases xs with
  | nil => cases e
  | cons x r => cases r with
    | nil => cases e; exact ⟨x, rfl, rfl⟩
    | cons a b => cases e
theorem map2 {S : Sto} {xs : List Tr} {y z : Tr} (e : xs.map (vw S) = [y, z]) : ∃ x w, xs = [x, w] ∧ vw S x = y ∧ vw S w = z := by
  cases xs with
  | nil => cases e
  | cons x r =>
    rw [List.map_cons] at e
    injection e with e1 e2
    obtain ⟨w, rfl, e3⟩ := map1 e2
    exact ⟨x, w, rfl, e1, e3⟩
def rLen2 (K : PySem.W.Frag) : List V → Hp → VK → Prop := fun vs H Q => (∃ z, vs = [.str z] ∧ z.length ≤ sizeLine ∧ Q (.int z.length) H) ∨ (∃ p ys, vs = [.ref p] ∧ (SqL K H p ys ∨ SqT K H p ys) ∧ Q (.int ys.length) H) ∨ (∃ p kvs, vs = [.ref p] ∧ Rd H p (.dK kvs) ∧ Q (.int kvs.length) H)
theorem len_dR : CallR X (.builtin "len") (fun xs H Q => ∃ a kvs, xs = [V.ref a] ∧ Rd H a (.dK kvs) ∧ Q (.int kvs.length) H) := by
  intro pins s σ H xs us Q I r h
  obtain ⟨a, kvs, rfl, ha, q⟩ := h
  obtain ⟨u, rfl, ru⟩ := vals1 r
  cases ru
  exact d_len I ha fun t s' I' => ⟨.int kvs.length, H, I', ⟨t, rfl⟩, q⟩
theorem len_op : CallR X (.builtin "len") (rLen2 X.K) := by
  refine KB.CallR.wk (KB.CallR.or call_len_str (KB.CallR.or call_len_seq len_dR)) fun vs H Q h => ?_
  rcases h with h | h | h
  · exact .inl h
  · exact .inr (.inl h)
  · exact .inr (.inr h)
theorem c_len : CallT K (rLen2 K) gLen := by
  intro L F H S I xs z vs R hd r hg k
  unfold gLen at hg
  split at hg
  · rename_i t e0
    obtain ⟨x, rfl, e⟩ := map1 e0
    obtain ⟨v, rfl, r1⟩ := RepL.one r
    cases vw_eq_str hd r1 e
    obtain ⟨c, rfl⟩ := hg
    exact .inl ⟨t, rfl, c, k _ H I hd (Same.refl _) rfl⟩
  · rename_i ys e0
    obtain ⟨x, rfl, e⟩ := map1 e0
    obtain ⟨v, rfl, r1⟩ := RepL.one r
    obtain ⟨a, us, rfl, h1, h2⟩ := vw_lst hd r1 e
    subst hg
    exact .inr (.inl ⟨a, us, rfl, .inl (.inl (.inl h1)), by rw [h2.len]; exact k _ H I hd (Same.refl _) rfl⟩)
  · rename_i ys e0
    obtain ⟨x, rfl, e⟩ := map1 e0
    obtain ⟨v, rfl, r1⟩ := RepL.one r
    obtain ⟨a, rfl, h1⟩ := vw_scr hd r1 e
    subst hg
    exact .inr (.inl ⟨a, _, rfl, .inl h1, by rw [List.length_map]; exact k _ H I hd (Same.refl _) rfl⟩)
  · rename_i ys e0
    obtain ⟨x, rfl, e⟩ := map1 e0
    obtain ⟨v, rfl, r1⟩ := RepL.one r
    obtain ⟨a, us, rfl, h1, h2⟩ := vw_tup hd r1 e
    subst hg
    exact .inr (.inl ⟨a, us, rfl, .inr h1, by rw [h2.len]; exact k _ H I hd (Same.refl _) rfl⟩)
  · rename_i ks ys e0
    obtain ⟨x, rfl, e⟩ := map1 e0
    obtain ⟨v, rfl, r1⟩ := RepL.one r
    obtain ⟨a, us, rfl, h1, hl, h2⟩ := vw_dic hd r1 e
    subst hg
    refine .inr (.inr ⟨a, _, rfl, h1, ?_⟩)
    have : (ks.zip us).length = ks.length := by rw [List.length_zip, h2.len]; omega
    rw [this]
    exact k _ H I hd (Same.refl _) rfl
  · exact hg.elim
def gAbs (xs : List Tr) (z : Tr) : Prop := match xs with
  | [.int i] => z = .int i.natAbs
  | _ => False
theorem c_abs : CallT K (fun xs H Q => ∃ i, xs = [.int i] ∧ Q (.int (if i < 0 then -i else i)) H) gAbs := by
  intro L F H S I xs z vs R hd r hg k
  unfold gAbs at hg
  split at hg
  · rename_i i e0
    obtain ⟨x, rfl, e⟩ := map1 e0
    obtain ⟨v, rfl, r1⟩ := RepL.one r
    cases vw_eq_int hd r1 e
    subst hg
    exact ⟨i, rfl, by rw [KB.abs_nat]; exact k _ H I hd (Same.refl _) rfl⟩
  · exact hg.elim
def gInt (xs : List Tr) (z : Tr) : Prop := match xs with
  | [.int i] => z = .int i
  | [.bl b] => z = .int (if b then 1 else 0)
  | [.str a] => ∃ n, PySem.intText? a = some n ∧ a.length ≤ 640 ∧ z = .int n
  | _ => False
theorem c_int : CallT K KB.rIntA gInt := by
  intro L F H S I xs z vs R hd r hg k
  unfold gInt at hg
  split at hg
  · rename_i i e0
    obtain ⟨x, rfl, e⟩ := map1 e0
    obtain ⟨v, rfl, r1⟩ := RepL.one r
    cases vw_eq_int hd r1 e
    subst hg
    exact .inl ⟨i, rfl, k _ H I hd (Same.refl _) rfl⟩
  · rename_i i e0
    obtain ⟨x, rfl, e⟩ := map1 e0
    obtain ⟨v, rfl, r1⟩ := RepL.one r
    cases vw_eq_bl hd r1 e
    subst hg
    exact .inr (.inl ⟨i, rfl, k _ H I hd (Same.refl _) rfl⟩)
  · rename_i i e0
    obtain ⟨x, rfl, e⟩ := map1 e0
    obtain ⟨v, rfl, r1⟩ := RepL.one r
    cases vw_eq_str hd r1 e
    obtain ⟨n, h1, h2, rfl⟩ := hg
    exact .inr (.inr ⟨i, n, rfl, h1, h2, k _ H I hd (Same.refl _) rfl⟩)
  · exact hg.elim
def gStr (xs : List Tr) (z : Tr) : Prop := match xs with
  | [.int i] => i.natAbs.log2 < 1920 ∧ z = .str (Str.ofString (toString i))
  | [.str a] => z = .str a
  | _ => False
theorem c_str : CallT K KB.rStrA gStr := by
  intro L F H S I xs z vs R hd r hg k
  unfold gStr at hg
  split at hg
  · rename_i i e0
    obtain ⟨x, rfl, e⟩ := map1 e0
    obtain ⟨v, rfl, r1⟩ := RepL.one r
    cases vw_eq_int hd r1 e
    obtain ⟨c, rfl⟩ := hg
    exact .inl ⟨i, rfl, c, k _ H I hd (Same.refl _) rfl⟩
  · rename_i i e0
    obtain ⟨x, rfl, e⟩ := map1 e0
    obtain ⟨v, rfl, r1⟩ := RepL.one r
    cases vw_eq_str hd r1 e
    subst hg
    exact .inr ⟨i, rfl, k _ H I hd (Same.refl _) rfl⟩
  · exact hg.elim
def gMM (f : Int → Int → Int) (xs : List Tr) (z : Tr) : Prop := match xs with
  | [.int i, .int j] => z = .int (f i j)
  | _ => False
theorem c_mm {f : Int → Int → Int} : CallT K (fun xs H Q => ∃ i j, xs = [.int i, .int j] ∧ Q (.int (f i j)) H) (gMM f) := by
  intro L F H S I xs z vs R hd r hg k
  unfold gMM at hg
  split at hg
  · rename_i i j e
    obtain ⟨x, y, rfl, e1, e2⟩ := map2 e
    obtain ⟨v, w, rfl, r1, r2⟩ := RepL.two r
    cases vw_eq_int hd r1 e1
    cases vw_eq_int hd r2 e2
    subst hg
    exact ⟨i, j, rfl, k _ H I hd (Same.refl _) rfl⟩
  · exact hg.elim
/-- list(x), tuple(x) -/
def gList (xs : List Tr) (z : Tr) : Prop := match xs with
  | [.lst ys] => z = .lst ys
  | [.scr ns] => z = .lst (ns.map Tr.int)
  | [.tup ys] => z = .lst ys
  | _ => False
theorem c_list : CallT K (fun xs H Q => ∃ p ys, xs = [.ref p] ∧ (SqL K H p ys ∨ SqT K H p ys) ∧ ∀ l, H l = none → Q (.ref l) (upd H l (.lst ys))) gList := by
  intro L F H S I xs z vs R hd r hg k
  have fin : ∀ (p : Addr) (ys : List Tr) (us : List V), z = .lst ys → RepL K I ys us → (SqL K H p us ∨ SqT K H p us) → ∃ p' ys, [V.ref p] = [.ref p'] ∧ (SqL K H p' ys ∨ SqT K H p' ys) ∧ ∀ l, H l = none → R (.ref l) (upd H l (.lst ys)) := fun p ys us e h q => by
    subst e
    exact ⟨p, us, rfl, q, fun l nl => k _ _ _ (hd.imm nl) (upd_sub (hd.freeI nl)) ⟨l, us, rfl, upd_same, h.mono (upd_sub (hd.freeI nl))⟩⟩
  unfold gList at hg
  split at hg
  · rename_i ys e0
    obtain ⟨x, rfl, e⟩ := map1 e0
    obtain ⟨v, rfl, r1⟩ := RepL.one r
    obtain ⟨a, us, rfl, h1, h2⟩ := vw_lst hd r1 e
    exact fin a ys us hg h2 (.inl (.inl (.inl h1)))
  · rename_i ys e0
    obtain ⟨x, rfl, e⟩ := map1 e0
    obtain ⟨v, rfl, r1⟩ := RepL.one r
    obtain ⟨a, rfl, h1⟩ := vw_scr hd r1 e
    exact fin a _ _ hg (RepL.ints ys) (.inl h1)
  · rename_i ys e0
    obtain ⟨x, rfl, e⟩ := map1 e0
    obtain ⟨v, rfl, r1⟩ := RepL.one r
    obtain ⟨a, us, rfl, h1, h2⟩ := vw_tup hd r1 e
    exact fin a ys us hg h2 (.inr h1)
  · exact hg.elim
def gTuple (xs : List Tr) (z : Tr) : Prop := match xs with
  | [.lst ys] => z = .tup ys
  | [.tup ys] => z = .tup ys
  | _ => False
theorem c_tuple : CallT K (fun xs H Q => ∃ p ys, xs = [.ref p] ∧ ((SqL K H p ys ∧ ∀ l, H l = none → Q (.ref l) (upd H l (.tup ys))) ∨ (SqT K H p ys ∧ Q (.ref p) H))) gTuple := by
  intro L F H S I xs z vs R hd r hg k
  unfold gTuple at hg
  split at hg
  · rename_i ys e0
    obtain ⟨x, rfl, e⟩ := map1 e0
    obtain ⟨v, rfl, r1⟩ := RepL.one r
    obtain ⟨a, us, rfl, h1, h2⟩ := vw_lst hd r1 e
    subst hg
    exact ⟨a, us, rfl, .inl ⟨.inl (.inl h1), fun l nl => k _ _ _ (hd.imm nl) (upd_sub (hd.freeI nl)) ⟨l, us, rfl, .inl (.inl upd_same), h2.mono (upd_sub (hd.freeI nl))⟩⟩⟩
  · rename_i ys e0
    obtain ⟨x, rfl, e⟩ := map1 e0
    obtain ⟨v, rfl, r1⟩ := RepL.one r
    obtain ⟨a, us, e1, h1, h2⟩ := vw_tup hd r1 e
    subst e1
    subst hg
    refine ⟨a, us, rfl, .inr ⟨h1, k _ H I hd (Same.refl _) ?_⟩⟩
    rcases vw_cases S x with ⟨e1, _⟩ | ⟨b, c, rfl, ea, e1⟩
    · rw [e1] at e; subst e; exact r1
    · obtain ⟨_, _, o, _, q⟩ := hd.cel b _ ea
      rw [e1] at e; subst e; exact q.elim
  · exact hg.elim
/-! ### isinstance -/
/-- what an own class must have that its instances are looked at -/
structure ClsI (K : PySem.W.Frag) (C : Addr) : Prop where
  cl : Cls K C
  ha : PySem.W.findIn K (.ref C) "__class__" = some (some (.builtin "object.__class__"))
  hn : PySem.W.specialIn K (.builtin "object.__class__") "__get__" = some (some (.builtin "getset_descriptor.__get__"))
  ht : PySem.W.takesIn K (.builtin "object.__class__") = some true
  hm : PySem.W.mroIn K C (.type "object") = some true
def tyT (K : PySem.W.Frag) (x : Tr) (t : Value) : Prop := match x with
  | .non => t = .type "NoneType"
  | .bl _ => t = .type "bool"
  | .int _ => t = .type "int"
  | .str _ => t = .type "str"
  | .lst _ => t = .type "list"
  | .scr _ => t = .type "list"
  | .tup _ => t = .type "tuple"
  | .dic _ _ => t = .type "dict"
  | .ins C _ _ => ClsI K C ∧ t = .ref C
  | _ => False
def clsT (c : Tr) (u : Value) : Prop := match c with
  | .ty n => u = .type n
  | .ref C => u = .ref C
  | _ => False
theorem sqL_ty {H : Hp} {a : Addr} {vs : List V} (h : SqL K H a vs) : TyX K H (.ref a) (.type "list") := by
  rcases h with (h | ⟨o, h⟩) | ⟨o, its, n, h1, h2, _⟩
  · exact .base (.lst h)
  · exact .base (.frz h)
  · exact .kList h1 h2
theorem sqT_ty {H : Hp} {a : Addr} {vs : List V} (h : SqT K H a vs) : TyX K H (.ref a) (.type "tuple") := by
  rcases h with (h | ⟨o, h⟩) | ⟨o, its, n, h1, h2, _⟩
  · exact .base (.tup h)
  · exact .fTuple h
  · exact .kTuple h1 h2
theorem tyT_ty {L : Lk} {F H I : Hp} {S : Sto} {x : Tr} {v : V} {t : Value} (hd : Hd K L F H S I) (r : Rep K I x v) (e : tyT K (vw S x) t) : TyX K H v t := by
  unfold tyT at e
  split at e
  · rename_i z; cases vw_eq_non hd r z; subst e; exact .base .non
  · rename_i z; cases vw_eq_bl hd r z; subst e; exact .base (.bl _)
  · rename_i z; cases vw_eq_int hd r z; subst e; exact .base (.int _)
  · rename_i z; cases vw_eq_str hd r z; subst e; exact .base (.str _)
  · rename_i z; obtain ⟨a, vs, rfl, h1, _⟩ := vw_lst hd r z; subst e; exact .base (.lst h1)
  · rename_i z; obtain ⟨a, rfl, h1⟩ := vw_scr hd r z; subst e; exact sqL_ty h1
  · rename_i z; obtain ⟨a, vs, rfl, h1, _⟩ := vw_tup hd r z; subst e; exact sqT_ty h1
  · rename_i z
    obtain ⟨a, vs, rfl, h1, _⟩ := vw_dic hd r z
    subst e
    rcases h1 with h1 | ⟨o, h1⟩
    · exact .base (.dK h1)
    · exact .fDict h1
  · rename_i z
    obtain ⟨a, dx, vs, rfl, h1, _⟩ := vw_ins hd r z
    obtain ⟨c, rfl⟩ := e
    exact .base (.ins h1 c.cl c.ha c.hn c.ht c.hm)
  · exact e.elim
theorem clsT_cls {L : Lk} {F H I : Hp} {S : Sto} {x : Tr} {v : V} {u : Value} (hd : Hd K L F H S I) (r : Rep K I x v) (e : clsT (vw S x) u) : ClsV v u := by
  unfold clsT at e
  split at e
  · rename_i n z; cases vw_eq_ty hd r z; subst e; exact .ty n
  · rename_i n z; cases vw_eq_ref hd r z; subst e; exact .own n
  · exact e.elim
/-- isinstance(x, c) -/
def gIsi (K : PySem.W.Frag) (xs : List Tr) (z : Tr) : Prop := match xs with
  | [x, c] => ∃ t u b, tyT K x t ∧ clsT c u ∧ PySem.W.kitOne K t u = some b ∧ z = .bl b
  | _ => False
theorem c_isi : CallT K (rIsi K) (gIsi K) := by
  intro L F H S I xs z vs R hd r hg k
  unfold gIsi at hg
  split at hg
  · rename_i x0 c e
    obtain ⟨x, y, rfl, e1, e2⟩ := map2 e
    obtain ⟨v, w, rfl, r1, r2⟩ := RepL.two r
    obtain ⟨t, u, b, h1, h2, h3, rfl⟩ := hg
    rw [← e1] at h1
    rw [← e2] at h2
    exact ⟨v, w, t, u, b, rfl, clsT_cls hd r2 h2, tyT_ty hd r1 h1, h3, k _ H I hd (Same.refl _) rfl⟩
  · exact hg.elim
/-- isinstance(x, (c, d)) -/
def uIsi2 (K : PySem.W.Frag) (u w : Value) (te : UE) : UE := fun ρ S Q X => te ρ S (fun x S1 => ∃ t b e, tyT K (vw S1 x) t ∧ PySem.W.kitOne K t u = some b ∧ PySem.W.kitOne K t w = some e ∧ Q (.bl (b || e)) S1) X
theorem e_isi2 {e c d : Expr} {te : UE} {v1 v2 : V} {u w : Value} {x1 : Nat} {p pos pt : Pos} (hg : Gl X "isinstance") (hm : X.mg "isinstance" = none) (he : TPE X W e te) (hc : PE X c (tC v1)) (h1 : ClsV v1 u) (hd : PE X d (tC v2)) (h2 : ClsV v2 w)
    (s1 : starEach (c :: [d]) X.env = (false, eval c X.env) :: starEach [d] X.env := by rfl) (s2 : starEach [d] X.env = (false, eval d X.env) :: starEach [] X.env := by rfl)
    (s3 : starEach (e :: [.Tuple [c, d] x1 pt]) X.env = (false, eval e X.env) :: starEach [.Tuple [c, d] x1 pt] X.env := by rfl) (s4 : starEach [.Tuple [c, d] x1 pt] X.env = (false, eval (.Tuple [c, d] x1 pt) X.env) :: starEach [] X.env := by rfl)
    (hpl : (backTo pos (starEach [.Tuple [c, d] x1 pt] X.env)).any (·.1) = false := by rfl) : TPE X W (.Call (.Name "isinstance" p) [e, .Tuple [c, d] x1 pt] [] pos) (uIsi2 X.K u w te) :=
  ⟨wkE (pe_callB call_isiT hg hm boot_isinstance (pa_cons he.pe (pa_cons (pe_tup (pa_cons hc (pa_cons hd pa_nil s2) s1)) pa_nil s4) s3) (he := s3) (hpl := hpl)) fun σ H R ⟨L, F, S, I, ρ, hd, sl, h⟩ =>
    lE_then he.mono hd sl h (fun _ _ _ _ h => h) fun x S1 v H1 I1 ⟨t, b, b2, h3, h4, h5, q⟩ hd1 s1 sl1 r => ⟨by show 2 ≤ sizeLine; decide, fun a na => by
      have hd2 := hd1.imm (o := .tup [v1, v2]) na
      refine ⟨v, a, [v1, v2], t, [u, w], b || b2, rfl, upd_same, .cons h1 (.cons h2 .nil), tyT_ty hd2 (r.mono (upd_sub (hd1.freeI na))) h3, ?_, q _ _ _ hd2 (s1.trans (upd_sub (hd1.freeI na))) rfl⟩
      refine kitAny_cons h4 (fun hb => ?_) (fun hb => by rw [hb]; rfl)
      rw [hb, Bool.false_or]
      exact kitAny_cons h5 (fun he => by rw [he]; exact kitAny_nil) (fun he => he)⟩, fun ρ S Q Q' X X' hQ hX h => he.mono _ _ _ _ _ _ (fun x S1 ⟨t, b, b2, h3, h4, h5, q⟩ => ⟨t, b, b2, h3, h4, h5, hQ _ _ q⟩) hX h⟩
end
end KQ
namespace KQ
open PySem PySem.Spec PyProof.Rows L2 TL KB
/-! ### range, texts, enumerate -/
section
variable {X : Cx} {W : WX} {tg e : Expr} {te : UE} {ta : UA} {p pos : Pos}
def rngT (lo : Int) : Nat → List Tr
  | 0 => []
  | n + 1 => .int lo :: rngT (lo + 1) n
theorem rngT_len : ∀ (n : Nat) (lo : Int), (rngT lo n).length = n
  | 0, _ => rfl
  | n + 1, lo => by show (rngT (lo + 1) n).length + 1 = _; rw [rngT_len n]
theorem rngT_get : ∀ (n : Nat) (lo : Int) (i : Nat), i < n → (rngT lo n)[i]? = some (.int (lo + i))
  | 0, _, _, h => absurd h (Nat.not_lt_zero _)
  | n + 1, lo, 0, _ => by show some (Tr.int lo) = some (.int (lo + ((0 : Nat) : Int))); rw [Int.natCast_zero, Int.add_zero]
  | n + 1, lo, i + 1, h => by
    show (rngT (lo + 1) n)[i]? = _
    rw [rngT_get n (lo + 1) i (by omega)]
    congr 2
    omega
def uRng1 (ta : UA) : UI := fun ρ S R X => ta ρ S (fun xs S1 => ∃ j, xs = [.int j] ∧ (-(2 ^ 62) ≤ j ∧ j < 2 ^ 62) ∧ R ⟨rngT 0 j.toNat, fun _ => True⟩ S1) X
def uRng2 (ta : UA) : UI := fun ρ S R X => ta ρ S (fun xs S1 => ∃ i j, xs = [.int i, .int j] ∧ (-(2 ^ 62) ≤ i ∧ i < 2 ^ 62 ∧ -(2 ^ 62) ≤ j ∧ j < 2 ^ 62) ∧ R ⟨rngT i (j - i).toNat, fun _ => True⟩ S1) X
theorem it_rng {K : PySem.W.Frag} {L : Lk} {I : Hp} (lo : Int) (n : Nat) : ItRep K L I (Itr lo n) ⟨rngT lo n, fun _ => True⟩ where
  go := fun F i H S I' _ _ _ h => by show i < n; rw [← rngT_len n lo]; exact h
  stop := fun F i H S I' _ _ _ h => by show n ≤ i; rw [← rngT_len n lo]; exact Nat.le_of_eq h.symm
  yld := fun F i H S I' v H' x hd _ _ e y => by
    obtain ⟨rfl, rfl⟩ := y
    have hi : i < n := by
      by_cases z : i < n
      · exact z
      · rw [List.getElem?_eq_none (by rw [rngT_len]; omega)] at e; cases e
    rw [rngT_get n lo i hi] at e
    cases e
    exact ⟨I', hd, Same.refl _, rfl⟩
theorem i_rng1 {a : Expr} (hg : Gl X "range") (hm : X.mg "range" = none) (ha : TPA X W [a] ta) (hs : starEach [a] X.env = [(false, eval a X.env)] := by rfl) : TPI X W tg (.Call (.Name "range" p) [a] [] pos) (uRng1 ta) :=
  ⟨wkI (pi_range1 hg hm ha.pe hs) fun σ H R ⟨L, F, S, I, ρ, hd, sl, h⟩ => lA_then ha.mono hd sl h (fun _ _ _ _ h => h) fun xs S1 vs H1 I1 ⟨j, e, c, q⟩ hd1 s1 sl1 r => by
    subst e
    obtain ⟨v, rfl, r1⟩ := RepL.one r
    cases r1
    exact ⟨j, rfl, c.1, c.2, q _ H1 I1 hd1 s1 (it_rng 0 _)⟩, fun ρ S Q Q' X X' hQ hX h => ha.mono _ _ _ _ _ _ (fun xs S1 ⟨j, e, c, q⟩ => ⟨j, e, c, hQ _ _ q⟩) hX h⟩
theorem i_rng2 {a b : Expr} (hg : Gl X "range") (hm : X.mg "range" = none) (ha : TPA X W [a, b] ta) (hs : starEach [a, b] X.env = [(false, eval a X.env), (false, eval b X.env)] := by rfl) (hs2 : starEach [b] X.env = [(false, eval b X.env)] := by rfl) : TPI X W tg (.Call (.Name "range" p) [a, b] [] pos) (uRng2 ta) :=
  ⟨wkI (pi_range2 hg hm ha.pe hs hs2) fun σ H R ⟨L, F, S, I, ρ, hd, sl, h⟩ => lA_then ha.mono hd sl h (fun _ _ _ _ h => h) fun xs S1 vs H1 I1 ⟨i, j, e, c, q⟩ hd1 s1 sl1 r => by
    subst e
    obtain ⟨v, w, rfl, r1, r2⟩ := RepL.two r
    cases r1
    cases r2
    exact ⟨i, j, rfl, c, q _ H1 I1 hd1 s1 (it_rng i _)⟩, fun ρ S Q Q' X X' hQ hX h => ha.mono _ _ _ _ _ _ (fun xs S1 ⟨i, j, e, c, q⟩ => ⟨i, j, e, c, hQ _ _ q⟩) hX h⟩
def sgnT (c : Nat) : Tr := .str ⟨#[c]⟩
def uStrI (te : UE) : UI := fun ρ S R X => te ρ S (fun x S1 => ∃ z, vw S1 x = .str z ∧ R ⟨z.cps.toList.map sgnT, fun _ => True⟩ S1) X
theorem i_str (he : TPE X W e te) : TPI X W tg e (uStrI te) :=
  ⟨wkI (pi_str he.pe) fun σ H R ⟨L, F, S, I, ρ, hd, sl, h⟩ => lE_then he.mono hd sl h (fun _ _ _ _ h => h) fun x S1 v H1 I1 ⟨z, e, q⟩ hd1 s1 sl1 r => by
    cases vw_eq_str hd1 r e
    have el : (z.cps.toList.map sgnT).length = z.cps.size := by simp
    refine ⟨z, rfl, q _ H1 I1 hd1 s1 ⟨fun F i H S I' _ _ _ h => by show i < _; rw [← el]; exact h, fun F i H S I' _ _ _ h => by show z.cps.size ≤ i; rw [← el]; exact Nat.le_of_eq h.symm, fun F i H S I' v H' x hd _ _ e y => ?_⟩⟩
    obtain ⟨rfl, c, ec, rfl⟩ := y
    rw [List.getElem?_map, Array.getElem?_toList, ec] at e
    cases e
    exact ⟨I', hd, Same.refl _, rfl⟩, fun ρ S Q Q' X X' hQ hX h => he.mono _ _ _ _ _ _ (fun xs S1 ⟨z, e, q⟩ => ⟨z, e, hQ _ _ q⟩) hX h⟩
def enumT : Nat → List Tr → List Tr
  | _, [] => []
  | n, x :: xs => .tup [.int n, x] :: enumT (n + 1) xs
theorem enumT_len : ∀ (xs : List Tr) (n : Nat), (enumT n xs).length = xs.length
  | [], _ => rfl
  | x :: xs, n => by show (enumT (n + 1) xs).length + 1 = _; rw [enumT_len xs]; rfl
theorem enumT_get : ∀ (xs : List Tr) (n i : Nat) (y : Tr), (enumT n xs)[i]? = some y → ∃ x, xs[i]? = some x ∧ y = .tup [.int ((n + i : Nat) : Int), x]
  | [], _, _, _, e => by simp [enumT] at e
  | x :: xs, n, 0, y, e => by
    cases e
    exact ⟨x, rfl, rfl⟩
  | x :: xs, n, i + 1, y, e => by
    obtain ⟨z, e1, e2⟩ := enumT_get xs (n + 1) i y (by simpa [enumT] using e)
    refine ⟨z, by simpa using e1, ?_⟩
    rw [e2, show n + 1 + i = n + (i + 1) by omega]
/-- enumerate(x), x a list -/
def uEnum (ta : UA) : UI := fun ρ S R X => ta ρ S (fun ys S1 => ∃ x xs, ys = [x] ∧ asL (vw S1 x) = some xs ∧ R ⟨enumT 0 xs, fun S' => vw S' x = vw S1 x⟩ S1) X
theorem i_enum {elts : List Expr} {kk : Nat} {tpos : Pos} (hg : Gl X "enumerate") (hm : X.mg "enumerate" = none) (ha : TPA X W [e] ta) (hs : starEach [e] X.env = [(false, eval e X.env)] := by rfl) : TPI X W (.Tuple elts kk tpos) (.Call (.Name "enumerate" p) [e] [] pos) (uEnum ta) :=
  ⟨wkI (pi_enum hg hm ha.pe hs) fun σ H R ⟨L, F, S, I, ρ, hd, sl, h⟩ => lA_then ha.mono hd sl h (fun _ _ _ _ h => h) fun ys S1 vs H1 I1 ⟨x, xs, e, ex, q⟩ hd1 s1 sl1 r => by
    subst e
    obtain ⟨v, rfl, r1⟩ := RepL.one r
    obtain ⟨a, us, rfl, h1, h2⟩ := asL_sq hd1 r1 ex
    refine ⟨a, us, rfl, h1, q _ H1 I1 hd1 s1 ⟨fun F i H S' I' hd' s' hok hi => ?_, fun F i H S' I' hd' s' hok hi => ?_, fun F i H S' I' w H' y hd' s' hok hi hy => ?_⟩⟩
    · obtain ⟨b, ws, eb, h3, h4⟩ := asL_sq (x := x) hd' (r1.mono s') (by rw [hok]; exact ex)
      cases eb
      have hl : i < ws.length := by rw [h4.len, ← enumT_len xs 0]; exact hi
      exact ⟨ws, ws[i], h3, List.getElem?_eq_getElem hl⟩
    · obtain ⟨b, ws, eb, h3, h4⟩ := asL_sq (x := x) hd' (r1.mono s') (by rw [hok]; exact ex)
      cases eb
      have hi' : i = (enumT 0 xs).length := hi
      rw [enumT_len] at hi'
      exact ⟨ws, h3, by rw [h4.len]; omega⟩
    · obtain ⟨b, ws, eb, h3, h4⟩ := asL_sq (x := x) hd' (r1.mono s') (by rw [hok]; exact ex)
      cases eb
      obtain ⟨T, z, rfl, nT, rfl, hz⟩ := hy
      obtain ⟨y0, e0, rfl⟩ := enumT_get xs 0 i y hi
      obtain ⟨u, eu, ru⟩ := h4.get' e0
      have := hz ws h3
      rw [eu] at this; cases this
      refine ⟨_, hd'.imm nT, upd_sub (hd'.freeI nT), ⟨T, _, rfl, .inl (.inl upd_same), .cons ?_ (.cons (ru.mono (upd_sub (hd'.freeI nT))) rfl)⟩⟩
      rw [Nat.zero_add]
      exact rfl, fun ρ S Q Q' X X' hQ hX h => ha.mono _ _ _ _ _ _ (fun xs S1 ⟨x, ys, e, c, q⟩ => ⟨x, ys, e, c, hQ _ _ q⟩) hX h⟩
end
/-! ### fields -/
def fget (f : Str) : List Str → List Tr → Option Tr
  | g :: gs, x :: xs => if f = g then some x else fget f gs xs
  | _, _ => none
theorem fget_lk {K : PySem.W.Frag} {I : Hp} {f : Str} : ∀ {fs : List Str} {xs : List Tr} {vs : List V} {x : Tr}, RepL K I xs vs → fget f fs xs = some x → ∃ v, (fs.zip vs).lookup f = some v ∧ Rep K I x v
  | [], _, _, _, _, e => by simp [fget] at e
  | _ :: _, [], _, _, _, e => by simp [fget] at e
  | g :: gs, y :: xs, vs, x, r, e => by
    obtain ⟨v, ws, rfl, r1, r2⟩ := r
    by_cases h : f = g
    · subst h
      rw [fget, if_pos rfl] at e
      cases e
      exact ⟨v, by simp [List.lookup], r1⟩
    · rw [fget, if_neg h] at e
      obtain ⟨w, e1, r3⟩ := fget_lk r2 e
      refine ⟨w, ?_, r3⟩
      have hb : (f == g) = false := by simpa using h
      rw [List.zip_cons_cons, List.lookup_cons, hb]
      exact e1
/-- the class at C has no attribute f of its own -/
structure ClsF (K : PySem.W.Frag) (C : Addr) (f : Str) : Prop where
  cl : Cls K C
  no : NoAttr K C f
def uFld (K : PySem.W.Frag) (f : Str) (te : UE) : UE := fun ρ S Q X => te ρ S (fun x S1 => ∃ C fs xs y, vw S1 x = .ins C fs xs ∧ ClsF K C f ∧ fget f fs xs = some y ∧ Q y S1) X
/-- a new value of a field: the names, the values -/
def fputN (f : Str) : List Str → List Str
  | [] => [f]
  | g :: gs => if g = f then g :: gs else g :: fputN f gs
def fputX (f : Str) (y : Tr) : List Str → List Tr → List Tr
  | g :: gs, x :: xs => if g = f then y :: xs else x :: fputX f y gs xs
  | _, _ => [y]
section
variable {X : Cx} {W : WX} {o e : Expr} {te to : UE} {pos p' : Pos} {f : Str}
theorem mono_fld {K : PySem.W.Frag} (m : MonoE te) : MonoE (uFld K f te) := fun ρ S Q Q' X X' hQ hX h => m _ _ _ _ _ _ (fun x S1 ⟨C, fs, xs, y, e, c, g, q⟩ => ⟨C, fs, xs, y, e, c, g, hQ _ _ q⟩) hX h
theorem e_fld (he : TPE X W e te) (hb : attributeBase e f X.env (eval e X.env) = eval e X.env) : TPE X W (.Attribute e f pos) (uFld X.K f te) :=
  ⟨wkE (pe_fld he.pe hb) fun σ H R ⟨L, F, S, I, ρ, hd, sl, h⟩ => lE_then he.mono hd sl h (fun _ _ _ _ h => h) fun x S1 v H1 I1 ⟨C, fs, xs, y, e, c, g, q⟩ hd1 s1 sl1 r => by
    obtain ⟨a, dx, vs, rfl, h1, hl, h2⟩ := vw_ins hd1 r e
    obtain ⟨w, e1, r1⟩ := fget_lk h2 g
    exact ⟨a, C, dx, _, w, rfl, h1, c.cl, c.no, e1, q w H1 I1 hd1 s1 r1⟩, mono_fld he.mono⟩
theorem fput_rep {K : PySem.W.Frag} {I : Hp} {y : Tr} {w : V} (ry : Rep K I y w) : ∀ {fs : List Str} {xs : List Tr} {vs : List V}, fs.length = xs.length → RepL K I xs vs → ∃ ws, putF f w (fs.zip vs) = (fputN f fs).zip ws ∧ (fputN f fs).length = (fputX f y fs xs).length ∧ RepL K I (fputX f y fs xs) ws
  | [], [], vs, _, r => by cases r; exact ⟨[w], rfl, rfl, .cons ry rfl⟩
  | [], _ :: _, _, e, _ => nomatch e
  | _ :: _, [], _, e, _ => nomatch e
  | g :: gs, x :: xs, vs, e, r => by
    obtain ⟨v, us, rfl, r1, r2⟩ := r
    have el : gs.length = xs.length := by simpa using e
    by_cases h : g = f
    · subst h
      refine ⟨w :: us, by simp [putF, fputN], by simp [fputN, fputX, el], ?_⟩
      simp only [fputX, if_true]
      exact .cons ry r2
    · obtain ⟨ws, h1, h2, h3⟩ := fput_rep ry el r2
      refine ⟨v :: ws, ?_, by simp [fputN, fputX, h, h2], ?_⟩
      · simp [putF, fputN, h, h1]
      · simp only [fputX, if_neg h]
        exact .cons r1 h3
/-- o.f = e, o a cell -/
def uSFld (K : PySem.W.Frag) (f : Str) (to te : UE) : US := fun D X ρ S => te ρ S (fun y S1 => to ρ S1 (fun x S2 => ∃ a C fs xs, x = .ref a ∧ S2 a = some (.ins C fs xs) ∧ ClsF K C f ∧ fs.length < 1000 ∧ D.nx ρ (put S2 a (.ins C (fputN f fs) (fputX f y fs xs)))) (atR X ρ)) (atR X ρ)
theorem s_fld (ho : TPE X W o to) (he : TPE X W e te) (hs : swapsWith e (some (.Attribute o f p')) pos.line X.env = pure false) : TPS X W (.Assign [.Attribute o f p'] e pos) (uSFld X.K f to te) :=
  ⟨wkS (ps_fld ho.pe he.pe hs) fun D σ H ⟨L, F, S, I, ρ, hd, sl, h⟩ => lE_then he.mono hd sl h (dnXS_at sl) fun y S1 w H1 I1 q hd1 s1 sl1 ry =>
    lE_then ho.mono hd1 sl1 q (fun c f x S' z => dnXS_at sl1 _ _ _ _ (dnXS_up s1 _ _ _ _ _ z)) fun x S2 v H2 I2 ⟨a, C, fs, xs, e, ea, c, hl, q⟩ hd2 s2 sl2 rx => by
      subst e
      cases rx
      obtain ⟨_, _, o, ho, dx, vs, rfl, el, rl⟩ := hd2.cel a _ ea
      obtain ⟨ws, h1, h2, h3⟩ := fput_rep (f := f) (ry.mono s2) el rl
      refine ⟨a, C, dx, _, rfl, ho, c.cl, c.no, by rw [List.length_zip]; omega, ?_⟩
      rw [h1]
      exact q σ _ I2 (hd2.mut ea ⟨dx, ws, rfl, h2, h3⟩) (s1.trans s2) sl2, fun D D' X X' ρ S hD hX h => he.mono _ _ _ _ _ _ (fun y S1 q => ho.mono _ _ _ _ _ _ (fun x S2 ⟨a, C, fs, xs, e, ea, c, hl, q⟩ => ⟨a, C, fs, xs, e, ea, c, hl, hD.1 _ _ q⟩) (fun _ _ _ _ z => hX _ _ _ _ _ z) q) (fun _ _ _ _ z => hX _ _ _ _ _ z) h⟩
/-! ### d[k] = e -/
def kputN (k : Key) (ks : List Key) : List Key := if hasK k ks = true then ks else ks ++ [k]
def kmap (k : Key) (y : Tr) : List Key → List Tr → List Tr
  | j :: js, x :: xs => (if j = k then y else x) :: kmap k y js xs
  | _, xs => xs
def kputX (k : Key) (y : Tr) (ks : List Key) (xs : List Tr) : List Tr := if hasK k ks = true then kmap k y ks xs else xs ++ [y]
theorem kmap_rep {K : PySem.W.Frag} {I : Hp} {y : Tr} {w : V} {k : Key} (ry : Rep K I y w) : ∀ {ks : List Key} {xs : List Tr} {vs : List V}, ks.length = xs.length → RepL K I xs vs → ∃ ws, (ks.zip vs).map (fun kv => if kv.1 = k then (kv.1, w) else kv) = ks.zip ws ∧ (kmap k y ks xs).length = xs.length ∧ RepL K I (kmap k y ks xs) ws
  | [], [], vs, _, r => by cases r; exact ⟨[], rfl, rfl, rfl⟩
  | [], _ :: _, _, e, _ => nomatch e
  | _ :: _, [], _, e, _ => nomatch e
  | j :: js, x :: xs, vs, e, r => by
    obtain ⟨v, us, rfl, r1, r2⟩ := r
    obtain ⟨ws, h1, h2, h3⟩ := kmap_rep (k := k) ry (ks := js) (by simpa using e) r2
    by_cases h : j = k
    · refine ⟨w :: ws, by simp [h, h1], by simp [kmap, h2], ?_⟩
      simp only [kmap, if_pos h]
      exact .cons ry h3
    · refine ⟨v :: ws, by simp [h, h1], by simp [kmap, h2], ?_⟩
      simp only [kmap, if_neg h]
      exact .cons r1 h3
theorem hasK_zip {k : Key} : ∀ {ks : List Key} {vs : List V}, ks.length = vs.length → (ks.zip vs).any (fun kv => decide (kv.1 = k)) = hasK k ks
  | [], [], _ => rfl
  | [], _ :: _, e => nomatch e
  | _ :: _, [], e => nomatch e
  | j :: js, v :: vs, e => by
    rw [List.zip_cons_cons, List.any_cons, hasK_zip (by simpa using e)]
    rfl
theorem zip_snoc {α β : Type} : ∀ {ks : List α} {vs : List β} {k : α} {v : β}, ks.length = vs.length → ks.zip vs ++ [(k, v)] = (ks ++ [k]).zip (vs ++ [v])
  | [], [], _, _, _ => rfl
  | [], _ :: _, _, _, e => nomatch e
  | _ :: _, [], _, _, e => nomatch e
  | j :: js, u :: us, k, v, e => by
    simp only [List.zip_cons_cons, List.cons_append]
    rw [zip_snoc (by simpa using e)]
theorem kput_rep {K : PySem.W.Frag} {I : Hp} {y : Tr} {w : V} {k : Key} {ks : List Key} {xs : List Tr} {vs : List V} (ry : Rep K I y w) (e : ks.length = xs.length) (r : RepL K I xs vs) : ∃ ws, putK (ks.zip vs) k w = (kputN k ks).zip ws ∧ (kputN k ks).length = (kputX k y ks xs).length ∧ RepL K I (kputX k y ks xs) ws := by
  have el : ks.length = vs.length := by rw [r.len]; exact e
  unfold putK kputN kputX
  rw [hasK_zip el]
  by_cases h : hasK k ks = true
  · obtain ⟨ws, h1, h2, h3⟩ := kmap_rep (k := k) ry e r
    rw [if_pos h, if_pos h, if_pos h]
    exact ⟨ws, h1, by rw [h2]; exact e, h3⟩
  · rw [if_neg h, if_neg h, if_neg h]
    exact ⟨vs ++ [w], zip_snoc el, by simp [e], r.app (.cons ry rfl)⟩
variable {i : Expr} {ti : UE}
def uDPut (to ti te : UE) : US := fun D X ρ S => te ρ S (fun y S1 => to ρ S1 (fun x S2 => ti ρ S2 (fun j S3 => ∃ a ks xs k, x = .ref a ∧ S3 a = some (.dic ks xs) ∧ keyT (vw S3 j) = some k ∧ ks.length < sizeLine ∧ D.nx ρ (put S3 a (.dic (kputN k ks) (kputX k y ks xs)))) (atR X ρ)) (atR X ρ)) (atR X ρ)
theorem s_dput (hu : X.A.units + 1 < cLine) (ho : TPE X W o to) (hi : TPE X W i ti) (he : TPE X W e te) (hs : swapsWith e (some (.Subscript o i p')) pos.line X.env = pure false) : TPS X W (.Assign [.Subscript o i p'] e pos) (uDPut to ti te) :=
  ⟨wkS (ps_dput hu ho.pe hi.pe he.pe hs) fun D σ H ⟨L, F, S, I, ρ, hd, sl, h⟩ => lE_then he.mono hd sl h (dnXS_at sl) fun y S1 w H1 I1 q hd1 s1 sl1 ry =>
    lE_then ho.mono hd1 sl1 q (fun c f x S' z => dnXS_at sl1 _ _ _ _ (dnXS_up s1 _ _ _ _ _ z)) fun x S2 v H2 I2 q hd2 s2 sl2 rx =>
    lE_then hi.mono hd2 sl2 q (fun c f x S' z => dnXS_at sl2 _ _ _ _ (dnXS_up (s1.trans s2) _ _ _ _ _ z)) fun j S3 u H3 I3 ⟨a, ks, xs, k, e, ea, ek, hl, q9⟩ hd3 s3 sl3 rj => by
      subst e
      cases rx
      cases keyT_rep hd3 rj ek
      obtain ⟨_, _, o, ho, vs, rfl, el, rl⟩ := hd3.cel a _ ea
      obtain ⟨ws, h1, h2, h3⟩ := kput_rep (k := k) (ry.mono (s2.trans s3)) el rl
      refine ⟨a, _, rfl, .inl ⟨_, k, ho, rfl, by rw [List.length_zip]; omega, rfl⟩, ?_⟩
      rw [h1]
      exact q9 σ _ I3 (hd3.mut ea ⟨ws, rfl, h2, h3⟩) ((s1.trans s2).trans s3) sl3,
    fun D D' X X' ρ S hD hX h => he.mono _ _ _ _ _ _ (fun y S1 q => ho.mono _ _ _ _ _ _ (fun x S2 q => hi.mono _ _ _ _ _ _ (fun j S3 ⟨a, ks, xs, k, e, ea, ek, hl, q⟩ => ⟨a, ks, xs, k, e, ea, ek, hl, hD.1 _ _ q⟩) (fun _ _ _ _ z => hX _ _ _ _ _ z) q) (fun _ _ _ _ z => hX _ _ _ _ _ z) q) (fun _ _ _ _ z => hX _ _ _ _ _ z) h⟩
/-- xs[i] = e, xs a cell -/
def uLPut (to ti te : UE) : US := fun D X ρ S => te ρ S (fun y S1 => to ρ S1 (fun x S2 => ti ρ S2 (fun j S3 => ∃ a xs n k, x = .ref a ∧ S3 a = some (.lst xs) ∧ vw S3 j = .int n ∧ ixN xs.length n = some k ∧ D.nx ρ (put S3 a (.lst (xs.set k y)))) (atR X ρ)) (atR X ρ)) (atR X ρ)
theorem s_lput (ho : TPE X W o to) (hi : TPE X W i ti) (he : TPE X W e te) (ha : ∀ v, assign (.Subscript o i p') X.env v = (do
      let ov ← holding [v] (eval o X.env)
      let iv ← holding [v, ov] (eval i X.env)
      standAt p'
      holding [v, ov, iv] (setItem ov iv v)
      release [v, ov, iv] []) := by intro _; rfl) (hs : swapsWithSole [.Subscript o i p'] e pos.line X.env = pure false := by rfl) (hw : swappedStores [.Subscript o i p'] e X.env = pure none := by rfl)
    (h1 : (assignEach [.Subscript o i p'] X.env).map (·.2) = [assign (.Subscript o i p') X.env] := by rfl) : TPS X W (.Assign [.Subscript o i p'] e pos) (uLPut to ti te) :=
  ⟨wkS (ps_asg he.pe (pg_sub ho.pe hi.pe set_list ha) hs hw h1) fun D σ H ⟨L, F, S, I, ρ, hd, sl, h⟩ => lE_then he.mono hd sl h (dnXS_at sl) fun y S1 w H1 I1 q hd1 s1 sl1 ry =>
    lE_then ho.mono hd1 sl1 q (fun c f x S' z => dnXS_at sl1 _ _ _ _ (dnXS_up s1 _ _ _ _ _ z)) fun x S2 v H2 I2 q hd2 s2 sl2 rx =>
    lE_then hi.mono hd2 sl2 q (fun c f x S' z => dnXS_at sl2 _ _ _ _ (dnXS_up (s1.trans s2) _ _ _ _ _ z)) fun j S3 u H3 I3 ⟨a, xs, n, k, e, ea, ek, hl, q9⟩ hd3 s3 sl3 rj => by
      subst e
      cases rx
      cases vw_eq_int hd3 rj ek
      obtain ⟨_, _, o, ho, vs, rfl, rl⟩ := hd3.cel a _ ea
      refine ⟨a, vs, n, k, rfl, rfl, ho, by rw [rl.len]; exact hl, ?_⟩
      exact q9 σ _ I3 (hd3.mut ea ⟨_, rfl, rl.set k (ry.mono (s2.trans s3))⟩) ((s1.trans s2).trans s3) sl3,
    fun D D' X X' ρ S hD hX h => he.mono _ _ _ _ _ _ (fun y S1 q => ho.mono _ _ _ _ _ _ (fun x S2 q => hi.mono _ _ _ _ _ _ (fun j S3 ⟨a, xs, n, k, e, ea, ek, hl, q⟩ => ⟨a, xs, n, k, e, ea, ek, hl, hD.1 _ _ q⟩) (fun _ _ _ _ z => hX _ _ _ _ _ z) q) (fun _ _ _ _ z => hX _ _ _ _ _ z) q) (fun _ _ _ _ z => hX _ _ _ _ _ z) h⟩
end
end KQ
namespace KQ
open PySem PySem.Spec PyProof.Rows L2 TL KB
/-! ### a slot's cells become trees -/
section
variable {X : Cx} {W : WX} {rest : List Stmt} {u : US}
theorem Slots.retree {K : PySem.W.Frag} {I I' : Hp} {σ : L2.St} {ρ : Rho} {i : Nat} {x y : Tr} (h : Slots K I σ ρ) (s : Same I I') (e : ρ[i]? = some (some x)) (k : ∀ v, Rep K I x v → Rep K I' y v) : Slots K I' σ (ρ.set i (some y)) := by
  refine ⟨by rw [List.length_set]; exact h.1, fun j z ez => ?_⟩
  by_cases hj : i = j
  · subst hj
    have hl : i < ρ.length := (List.getElem?_eq_some_iff.mp e).1
    rw [List.getElem?_set_self hl] at ez
    cases ez
    obtain ⟨v, e1, r⟩ := h.2 i x e
    exact ⟨v, e1, k v r⟩
  · rw [List.getElem?_set_ne hj] at ez
    exact (h.mono s).2 j z ez
def uFrz (i : Nat) (u : US) : US := fun D X ρ S => ∃ (x y : Tr) (S' : Sto), ρ[i]? = some (some x) ∧ Frz x S y S' ∧ u D X (ρ.set i (some y)) S'
theorem ss_frz {i : Nat} (h : TPSs X W rest u) : TPSs X W rest (uFrz i u) :=
  ⟨wkSs h.pe fun D σ H ⟨L, F, S, I, ρ, hd, sl, x, y, S', e, ⟨G, r, s, g⟩, q⟩ => lS_then h.mono (hd.thawed g s) (sl.retree (thaw_same hd g) e (r.rep hd g).1) q (dnD_up (thaw_same hd g)) (dnXS_up (thaw_same hd g)),
    fun D D' X X' ρ S hD hX ⟨x, y, S', e, f, q⟩ => ⟨x, y, S', e, f, h.mono _ _ _ _ _ _ hD hX q⟩⟩
end
/-! ### methods of lists and texts -/
section
variable {X : Cx} {W : WX} {o e : Expr} {es : List Expr} {to : UE} {ta : UA} {apos cpos : Pos} {id : String} {name : Str}
def tyOk (T : String) (x : Tr) : Prop := match x with
  | .str _ => T = "str"
  | .lst _ => T = "list"
  | .scr _ => T = "list"
  | _ => False
theorem tyOk_ty {K : PySem.W.Frag} {L : Lk} {F H I : Hp} {S : Sto} {T : String} {x : Tr} {v : V} (hd : Hd K L F H S I) (r : Rep K I x v) (h : tyOk T (vw S x)) : tyV K T v H := by
  unfold tyOk at h
  split at h
  · rename_i z e; cases vw_eq_str hd r e; exact h
  · rename_i z e; obtain ⟨a, vs, rfl, h1, _⟩ := vw_lst hd r e; exact .inl ⟨h, vs, .inl (.inl h1)⟩
  · rename_i z e; obtain ⟨a, rfl, h1⟩ := vw_scr hd r e; exact .inl ⟨h, _, h1⟩
  · exact h.elim
/-- a method that reads -/
def uMt (T : String) (g : Tr → List Tr → Tr → Prop) (to : UE) (ta : UA) : UE := fun ρ S Q X => to ρ S (fun x S1 => tyOk T (vw S1 x) ∧ ta ρ S1 (fun ys S2 => ∃ z, g (vw S2 x) (ys.map (vw S2)) z ∧ Q z S2) X) X
def MtT (K : PySem.W.Frag) (r : V → List V → Hp → VK → Prop) (g : Tr → List Tr → Tr → Prop) : Prop := ∀ {L : Lk} {F H : Hp} {S : Sto} {I : Hp} {x : Tr} {ys : List Tr} {z : Tr} {v : V} {vs : List V} {R : VK}, Hd K L F H S I → Rep K I x v → RepL K I ys vs → g (vw S x) (ys.map (vw S)) z →
  (∀ v' H' I', Hd K L F H' S I' → Same I I' → Rep K I' z v' → R v' H') → r v vs H R
theorem mono_mt {T : String} {g : Tr → List Tr → Tr → Prop} (mo : MonoE to) (ma : MonoA ta) : MonoE (uMt T g to ta) := fun ρ S Q Q' X X' hQ hX h => mo _ _ _ _ _ _ (fun x S1 ⟨c, q⟩ => ⟨c, ma _ _ _ _ _ _ (fun ys S2 ⟨z, hg, q⟩ => ⟨z, hg, hQ _ _ q⟩) hX q⟩) hX h
theorem e_mt {T : String} {r : V → List V → Hp → VK → Prop} {g : Tr → List Tr → Tr → Prop} (pa : PlainAttrs T) (slot : Slot T name id) (hty : typeOf (.builtin id) = pure (.type "method_descriptor")) (hm : MtR X id r) (s : MtT X.K r g) (ho : TPE X W o to) (ha : TPA X W (e :: es) ta)
    (hb : PE X o (lE X.K W to) → PA X (e :: es) (lA X.K W ta) → PE X (.Call (.Attribute o name apos) (e :: es) [] cpos) (tBM X.K T r (lE X.K W to) (lA X.K W ta))) : TPE X W (.Call (.Attribute o name apos) (e :: es) [] cpos) (uMt T g to ta) :=
  ⟨wkE (hb ho.pe ha.pe) fun σ H R ⟨L, F, S, I, ρ, hd, sl, h⟩ => lE_then ho.mono hd sl h (fun _ _ _ _ h => h) fun x S1 v H1 I1 ⟨c, q⟩ hd1 s1 sl1 rx => ⟨tyOk_ty hd1 rx c, lA_then ha.mono hd1 sl1 q (dnX_up s1) fun ys S2 vs H2 I2 ⟨z, hg, q⟩ hd2 s2 sl2 ry =>
    s hd2 (rx.mono s2) ry hg fun v' H' I' hd' s' r' => q v' H' I' hd' ((s1.trans s2).trans s') r'⟩, mono_mt ho.mono ha.mono⟩
theorem e_mt0 {T : String} {r : V → List V → Hp → VK → Prop} {g : Tr → List Tr → Tr → Prop} (s : MtT X.K r g) (ho : TPE X W o to) (hb : PE X o (lE X.K W to) → PE X (.Call (.Attribute o name apos) [] [] cpos) (tBM0 X.K T r (lE X.K W to))) : TPE X W (.Call (.Attribute o name apos) [] [] cpos) (uMt T g to uNil) :=
  ⟨wkE (hb ho.pe) fun σ H R ⟨L, F, S, I, ρ, hd, sl, h⟩ => lE_then ho.mono hd sl h (fun _ _ _ _ h => h) fun x S1 v H1 I1 ⟨c, z, hg, q⟩ hd1 s1 sl1 rx => ⟨tyOk_ty hd1 rx c,
    s hd1 rx (ys := []) rfl hg fun v' H' I' hd' s' r' => q v' H' I' hd' (s1.trans s') r'⟩, mono_mt ho.mono (a_nil (X := X) (W := W)).mono⟩
/-- a method that changes a list -/
def uMm (g : Sto → List Tr → List Tr → List Tr → Tr → Prop) (to : UE) (ta : UA) : UE := fun ρ S Q X => to ρ S (fun x S1 => tyOk "list" (vw S1 x) ∧ ta ρ S1 (fun ys S2 => ∃ a xs xs' z, x = .ref a ∧ S2 a = some (.lst xs) ∧ g S2 xs ys xs' z ∧ Q z (put S2 a (.lst xs'))) X) X
def MmT (K : PySem.W.Frag) (r : V → List V → Hp → VK → Prop) (g : Sto → List Tr → List Tr → List Tr → Tr → Prop) : Prop := ∀ {L : Lk} {F H : Hp} {S : Sto} {I : Hp} {a : Addr} {xs ys xs' : List Tr} {z : Tr} {vs : List V} {R : VK}, Hd K L F H S I → S a = some (.lst xs) → RepL K I ys vs → g S xs ys xs' z →
  (∀ v' H', Hd K L F H' (put S a (.lst xs')) I → Rep K I z v' → R v' H') → r (.ref a) vs H R
theorem mono_mm {g : Sto → List Tr → List Tr → List Tr → Tr → Prop} (mo : MonoE to) (ma : MonoA ta) : MonoE (uMm g to ta) := fun ρ S Q Q' X X' hQ hX h => mo _ _ _ _ _ _ (fun x S1 ⟨c, q⟩ => ⟨c, ma _ _ _ _ _ _ (fun ys S2 ⟨a, xs, xs', z, e, ea, hg, q⟩ => ⟨a, xs, xs', z, e, ea, hg, hQ _ _ q⟩) hX q⟩) hX h
theorem e_mm {r : V → List V → Hp → VK → Prop} {g : Sto → List Tr → List Tr → List Tr → Tr → Prop} (s : MmT X.K r g) (ho : TPE X W o to) (ha : TPA X W (e :: es) ta)
    (hb : PE X o (lE X.K W to) → PA X (e :: es) (lA X.K W ta) → PE X (.Call (.Attribute o name apos) (e :: es) [] cpos) (tBM X.K "list" r (lE X.K W to) (lA X.K W ta))) : TPE X W (.Call (.Attribute o name apos) (e :: es) [] cpos) (uMm g to ta) :=
  ⟨wkE (hb ho.pe ha.pe) fun σ H R ⟨L, F, S, I, ρ, hd, sl, h⟩ => lE_then ho.mono hd sl h (fun _ _ _ _ h => h) fun x S1 v H1 I1 ⟨c, q⟩ hd1 s1 sl1 rx => ⟨tyOk_ty hd1 rx c, lA_then ha.mono hd1 sl1 q (dnX_up s1) fun ys S2 vs H2 I2 ⟨a, xs, xs', z, e, ea, hg, q9⟩ hd2 s2 sl2 ry => by
    subst e
    cases rx
    exact s hd2 ea ry hg fun v' H' hd' r' => q9 v' H' I2 hd' (s1.trans s2) r'⟩, mono_mm ho.mono ha.mono⟩
theorem e_mm0 {r : V → List V → Hp → VK → Prop} {g : Sto → List Tr → List Tr → List Tr → Tr → Prop} (s : MmT X.K r g) (ho : TPE X W o to) (hb : PE X o (lE X.K W to) → PE X (.Call (.Attribute o name apos) [] [] cpos) (tBM0 X.K "list" r (lE X.K W to))) : TPE X W (.Call (.Attribute o name apos) [] [] cpos) (uMm g to uNil) :=
  ⟨wkE (hb ho.pe) fun σ H R ⟨L, F, S, I, ρ, hd, sl, h⟩ => lE_then ho.mono hd sl h (fun _ _ _ _ h => h) fun x S1 v H1 I1 ⟨c, a, xs, xs', z, e, ea, hg, q⟩ hd1 s1 sl1 rx => ⟨tyOk_ty hd1 rx c, by
    subst e
    cases rx
    exact s hd1 ea (ys := []) rfl hg fun v' H' hd' r' => q v' H' I1 hd' s1 r'⟩, mono_mm ho.mono (a_nil (X := X) (W := W)).mono⟩
end
section
variable {K : PySem.W.Frag}
def gAppend (S : Sto) (xs ys xs' : List Tr) (z : Tr) : Prop := match ys with
  | [y] => xs.length < sizeLine ∧ xs' = xs ++ [y] ∧ z = .non
  | _ => False
theorem m_append : MmT K rAppend gAppend := by
  intro L F H S I a xs ys xs' z vs R hd ea ry hg k
  unfold gAppend at hg
  split at hg
  · rename_i y
    obtain ⟨c, rfl, rfl⟩ := hg
    obtain ⟨v, rfl, r1⟩ := RepL.one ry
    obtain ⟨_, _, o, ho, us, rfl, rl⟩ := hd.cel a _ ea
    exact ⟨a, us, v, rfl, rfl, ho, by rw [rl.len]; exact c, k _ _ (hd.mut ea ⟨_, rfl, rl.app (.cons r1 rfl)⟩) rfl⟩
  · exact hg.elim
def gExtend (S : Sto) (xs ys xs' : List Tr) (z : Tr) : Prop := match ys with
  | [y] => ∃ zs, vw S y = .lst zs ∧ xs.length + zs.length ≤ sizeLine ∧ xs' = xs ++ zs ∧ z = .non
  | _ => False
theorem m_extend : MmT K rExtend gExtend := by
  intro L F H S I a xs ys xs' z vs R hd ea ry hg k
  unfold gExtend at hg
  split at hg
  · rename_i y
    obtain ⟨zs, e, c, rfl, rfl⟩ := hg
    obtain ⟨v, rfl, r1⟩ := RepL.one ry
    obtain ⟨b, ws, rfl, h1, h2⟩ := vw_lst hd r1 e
    obtain ⟨_, _, o, ho, us, rfl, rl⟩ := hd.cel a _ ea
    exact ⟨a, b, us, ws, rfl, rfl, ho, h1, by rw [rl.len, h2.len]; exact c, k _ _ (hd.mut ea ⟨_, rfl, rl.app h2⟩) rfl⟩
  · exact hg.elim
def gInsert (S : Sto) (xs ys xs' : List Tr) (z : Tr) : Prop := match ys with
  | [.int i, y] => xs.length < sizeLine ∧ 0 ≤ i ∧ i < 2 ^ 63 ∧ xs' = xs.take i.toNat ++ [y] ++ xs.drop i.toNat ∧ z = .non
  | _ => False
theorem m_insert : MmT K (fun x vs H Q => ∃ (l : Addr) (xs : List V) (i : Int) (y : V), x = .ref l ∧ vs = [.int i, y] ∧ H l = some (.lst xs) ∧ xs.length < sizeLine ∧ 0 ≤ i ∧ i < 2 ^ 63 ∧ Q .non (upd H l (.lst (xs.take i.toNat ++ [y] ++ xs.drop i.toNat)))) gInsert := by
  intro L F H S I a xs ys xs' z vs R hd ea ry hg k
  unfold gInsert at hg
  split at hg
  · rename_i i y
    obtain ⟨c, c1, c2, rfl, rfl⟩ := hg
    obtain ⟨v, w, rfl, r1, r2⟩ := RepL.two ry
    cases r1
    obtain ⟨_, _, o, ho, us, rfl, rl⟩ := hd.cel a _ ea
    exact ⟨a, us, i, w, rfl, rfl, ho, by rw [rl.len]; exact c, c1, c2, k _ _ (hd.mut ea ⟨_, rfl, ((rl.take _).app (RepL.cons r2 RepL.nil)).app (rl.drop _)⟩) rfl⟩
  · exact hg.elim
def gPop (S : Sto) (xs ys xs' : List Tr) (z : Tr) : Prop := ys = [] ∧ xs[xs.length - 1]? = some z ∧ xs' = xs.dropLast
theorem RepL.dropLast {I : Hp} {xs : List Tr} {vs : List V} (r : RepL K I xs vs) : RepL K I xs.dropLast vs.dropLast := by
  rw [List.dropLast_eq_take, List.dropLast_eq_take, r.len]
  exact r.take _
theorem m_pop : MmT K rPop gPop := by
  intro L F H S I a xs ys xs' z vs R hd ea ry hg k
  obtain ⟨rfl, e, rfl⟩ := hg
  cases ry
  obtain ⟨_, _, o, ho, us, rfl, rl⟩ := hd.cel a _ ea
  obtain ⟨v, ev, rv⟩ := rl.get' e
  exact ⟨a, us, v, rfl, rfl, ho, by rw [rl.len]; exact ev, k _ _ (hd.mut ea ⟨_, rfl, rl.dropLast⟩) rv⟩
/-- texts -/
def gJoin (x : Tr) (ys : List Tr) (z : Tr) : Prop := match x, ys with
  | .str a, [.lst zs] => ∃ ts : List Str, zs = ts.map Tr.str ∧ (ts.map (·.length)).sum + ts.length * a.length ≤ 16777216 ∧ z = .str (Txt.join a ts)
  | .str a, [.tup zs] => ∃ ts : List Str, zs = ts.map Tr.str ∧ (ts.map (·.length)).sum + ts.length * a.length ≤ 16777216 ∧ z = .str (Txt.join a ts)
  | _, _ => False
theorem RepL.strs_eq {I : Hp} : ∀ {ts : List Str} {vs : List V}, RepL K I (ts.map Tr.str) vs → vs = ts.map V.str
  | [], vs, r => by cases r; rfl
  | t :: ts, vs, r => by
    obtain ⟨v, ws, rfl, r1, r2⟩ := r
    cases r1
    rw [RepL.strs_eq r2]; rfl
theorem m_join {X : Cx} : MtT X.K (fun x xs H Q => ∃ a p, ∃ ys : List Str, x = .str a ∧ xs = [.ref p] ∧ (SqL X.K H p (ys.map V.str) ∨ SqT X.K H p (ys.map V.str)) ∧ (ys.map (·.length)).sum + ys.length * a.length ≤ 16777216 ∧ Q (.str (Txt.join a ys)) H) gJoin := by
  intro L F H S I x ys z v vs R hd rx ry hg k
  unfold gJoin at hg
  split at hg
  · rename_i a zs e1 e0
    obtain ⟨ts, rfl, c, rfl⟩ := hg
    obtain ⟨y, rfl, e2⟩ := map1 e0
    obtain ⟨w, rfl, r1⟩ := RepL.one ry
    cases vw_eq_str hd rx e1
    obtain ⟨b, us, rfl, h1, h2⟩ := vw_lst hd r1 e2
    cases RepL.strs_eq h2
    exact ⟨a, b, ts, rfl, rfl, .inl (.inl (.inl h1)), c, k _ H I hd (Same.refl _) rfl⟩
  · rename_i a zs e1 e0
    obtain ⟨ts, rfl, c, rfl⟩ := hg
    obtain ⟨y, rfl, e2⟩ := map1 e0
    obtain ⟨w, rfl, r1⟩ := RepL.one ry
    cases vw_eq_str hd rx e1
    obtain ⟨b, us, rfl, h1, h2⟩ := vw_tup hd r1 e2
    cases RepL.strs_eq h2
    exact ⟨a, b, ts, rfl, rfl, .inr h1, c, k _ H I hd (Same.refl _) rfl⟩
  · exact hg.elim
def gIsdigit (x : Tr) (ys : List Tr) (z : Tr) : Prop := match x, ys with
  | .str a, [] => z = .bl (Txt.isdigit a)
  | _, _ => False
theorem m_isdigit : MtT K (fun x xs H Q => ∃ a, x = .str a ∧ xs = [] ∧ True ∧ Q (.bl (Txt.isdigit a)) H) gIsdigit := by
  intro L F H S I x ys z v vs R hd rx ry hg k
  unfold gIsdigit at hg
  split at hg
  · rename_i a e1 e2
    cases vw_eq_str hd rx e1
    subst hg
    have : ys = [] := List.map_eq_nil_iff.mp e2
    subst this
    cases ry
    exact ⟨a, rfl, rfl, trivial, k _ H I hd (Same.refl _) rfl⟩
  · exact hg.elim
def gRmp (x : Tr) (ys : List Tr) (z : Tr) : Prop := match x, ys with
  | .str a, [.str b] => a.length ≤ sizeLine ∧ z = .str (Txt.removeprefix a b)
  | _, _ => False
theorem m_removeprefix : MtT K (fun x xs H Q => ∃ a b, x = .str a ∧ xs = [.str b] ∧ a.length ≤ sizeLine ∧ Q (.str (Txt.removeprefix a b)) H) gRmp := by
  intro L F H S I x ys z v vs R hd rx ry hg k
  unfold gRmp at hg
  split at hg
  · rename_i a b e1 e0
    obtain ⟨c, rfl⟩ := hg
    obtain ⟨y, rfl, e2⟩ := map1 e0
    obtain ⟨w, rfl, r1⟩ := RepL.one ry
    cases vw_eq_str hd rx e1
    cases vw_eq_str hd r1 e2
    exact ⟨a, b, rfl, rfl, c, k _ H I hd (Same.refl _) rfl⟩
  · exact hg.elim
end
/-! ### dicts walked under a lock -/
structure DSrc (X : Cx) (e : Expr) (td : TE) (src : Rho → Sto → List Key → List Tr → Prop) : Prop where
  pe : PE X e td
  run : ∀ {L : Lk} {F H : Hp} {S : Sto} {I : Hp} {σ : L2.St} {ρ : Rho} {ks : List Key} {xs : List Tr}, Hd X.K L F H S I → Slots X.K I σ ρ → src ρ S ks xs → ∃ d vs, I d = some (.dK (ks.zip vs)) ∧ ks.length = xs.length ∧ RepL X.K I xs vs ∧
    ∀ (H' : Hp) (R : VK), (∀ b o, b ≠ d → H b = some o → H' b = some o) → R (.ref d) H' → td σ H' R
section
variable {X : Cx} {pos : Pos}
def srcV (i : Nat) : Rho → Sto → List Key → List Tr → Prop := fun ρ S ks xs => ρ[i]? = some (some (.dic ks xs))
theorem d_var (i : Nat) {x : Str} (h : PE X (.Name x pos) (tVar i)) : DSrc X (.Name x pos) (tVar i) (srcV i) := ⟨h, fun {L F H S I σ ρ ks xs} hd sl e => by
  obtain ⟨v, ev, r⟩ := sl.2 i _ e
  obtain ⟨a, vs, rfl, h1, h2, h3⟩ := r
  exact ⟨a, vs, h1, h2, h3, fun H' R _ q => ⟨_, ev, q⟩⟩⟩
def srcF (K : PySem.W.Frag) (i : Nat) (f : Str) : Rho → Sto → List Key → List Tr → Prop := fun ρ S ks xs => ∃ (x : Tr) (C : Addr) (fs : List Str) (ys : List Tr), ρ[i]? = some (some x) ∧ vw S x = .ins C fs ys ∧ ClsF K C f ∧ fget f fs ys = some (.dic ks xs)
theorem d_fld (i : Nat) {e : Expr} {f : Str} (h : PE X (.Attribute e f pos) (tFld X.K (tVar i) f)) : DSrc X (.Attribute e f pos) (tFld X.K (tVar i) f) (srcF X.K i f) := ⟨h, fun {L F H S I σ ρ ks xs} hd sl ⟨x, C, fs, ys, e1, e2, c, g⟩ => by
  obtain ⟨v, ev, r⟩ := sl.2 i _ e1
  obtain ⟨a, dx, vs, rfl, h1, hl, h2⟩ := vw_ins hd r e2
  obtain ⟨w, e3, r3⟩ := fget_lk h2 g
  obtain ⟨d, us, rfl, h4, h5, h6⟩ := r3
  refine ⟨d, us, h4, h5, h6, fun H' R hk q => ⟨_, ev, a, C, dx, _, _, rfl, hk a _ ?_ h1, c.cl, c.no, e3, q⟩⟩
  intro z
  subst z
  have q := hd.sub a _ h4
  rw [h1] at q
  cases z : L a with
  | none => rw [z] at q; cases q
  | some od => rw [z] at q; cases q⟩
/-- what is walked -/
inductive DK where
  | keys | vals | items
def DK.list : DK → List Key → List Tr → List Tr
  | .keys, k :: ks, x :: xs => (match k with | .inl n => .int n | .inr z => .str z) :: DK.list .keys ks xs
  | .vals, k :: ks, x :: xs => x :: DK.list .vals ks xs
  | .items, k :: ks, x :: xs => .tup [(match k with | .inl n => .int n | .inr z => .str z), x] :: DK.list .items ks xs
  | _, _, _ => []
def kT : Key → Tr
  | .inl n => .int n
  | .inr z => .str z
theorem kT_rep {K : PySem.W.Frag} {I : Hp} (k : Key) : Rep K I (kT k) (kV k) := by cases k <;> rfl
def dkItem (w : DK) (k : Key) (x : Tr) : Tr := match w with
  | .keys => kT k
  | .vals => x
  | .items => .tup [kT k, x]
theorem dk_cons (w : DK) (k : Key) (ks : List Key) (x : Tr) (xs : List Tr) : DK.list w (k :: ks) (x :: xs) = dkItem w k x :: DK.list w ks xs := by
  cases w <;> cases k <;> rfl
theorem dk_len (w : DK) : ∀ {ks : List Key} {xs : List Tr}, ks.length = xs.length → (DK.list w ks xs).length = ks.length
  | [], _, _ => by cases w <;> rfl
  | _ :: _, [], e => nomatch e
  | k :: ks, x :: xs, e => by rw [dk_cons, List.length_cons, List.length_cons, dk_len w (by simpa using e)]
theorem dk_get (w : DK) : ∀ {ks : List Key} {xs : List Tr} {i : Nat} {y : Tr}, (DK.list w ks xs)[i]? = some y → ∃ k x, ks[i]? = some k ∧ xs[i]? = some x ∧ y = dkItem w k x
  | [], xs, i, y, e => by
    have : DK.list w [] xs = [] := by cases w <;> rfl
    rw [this] at e
    simp at e
  | _ :: _, [], i, y, e => by
    have : ∀ (k : Key) (ks : List Key), DK.list w (k :: ks) [] = [] := fun k ks => by cases w <;> rfl
    rw [this] at e
    simp at e
  | k :: ks, x :: xs, 0, y, e => by
    rw [dk_cons] at e
    cases e
    exact ⟨k, x, rfl, rfl, rfl⟩
  | k :: ks, x :: xs, i + 1, y, e => by
    rw [dk_cons] at e
    exact dk_get w (i := i) (by simpa using e)
def DK.it : DK → Addr → Obj → List (Key × V) → It
  | .keys => Itk
  | .vals => Itd
  | .items => Iti
theorem zip_get {α β : Type} : ∀ {ks : List α} {vs : List β} {i : Nat} {k : α} {v : β}, ks[i]? = some k → vs[i]? = some v → (ks.zip vs)[i]? = some (k, v)
  | [], _, _, _, _, e, _ => by simp at e
  | _ :: _, [], _, _, _, _, e => by simp at e
  | a :: ks, b :: vs, 0, k, v, e1, e2 => by cases e1; cases e2; rfl
  | a :: ks, b :: vs, i + 1, k, v, e1, e2 => by
    rw [List.zip_cons_cons]
    exact zip_get (i := i) (by simpa using e1) (by simpa using e2)
theorem it_dict {K : PySem.W.Frag} {L : Lk} {I : Hp} {d : Addr} {od : Obj} {ks : List Key} {xs : List Tr} {vs : List V} (w : DK) (hl : L d = some od) (hi : I d = some (.dK (ks.zip vs))) (el : ks.length = xs.length) (r : RepL K I xs vs) :
    ItRep K L I (w.it d od (ks.zip vs)) ⟨DK.list w ks xs, fun _ => True⟩ := by
  have lz : (ks.zip vs).length = ks.length := by rw [List.length_zip, r.len]; omega
  have at_ : ∀ {F H : Hp} {S : Sto} {I' : Hp}, Hd K L F H S I' → Same I I' → H d = some (.frz od (.dK (ks.zip vs))) := fun {F H S I'} hd s => by
    have q := hd.sub d _ (s _ _ hi)
    rw [hl] at q
    exact q
  refine ⟨fun F i H S I' hd s _ h => ?_, fun F i H S I' hd s _ h => ?_, fun F i H S I' v H' x hd s _ e y => ?_⟩
  · have h' : i < (ks.zip vs).length := by rw [lz, ← dk_len w el]; exact h
    cases w <;> exact ⟨at_ hd s, h'⟩
  · have h' : (ks.zip vs).length ≤ i := by rw [lz, ← dk_len w el]; exact Nat.le_of_eq h.symm
    cases w <;> exact ⟨at_ hd s, h'⟩
  · obtain ⟨k, x0, e1, e2, rfl⟩ := dk_get w e
    obtain ⟨u, eu, ru⟩ := r.get' e2
    have ez := zip_get e1 eu
    cases w with
    | keys =>
      obtain ⟨rfl, k', v', e3, rfl⟩ := y
      rw [ez] at e3; cases e3
      exact ⟨I', hd, Same.refl _, kT_rep k⟩
    | vals =>
      obtain ⟨rfl, k', e3⟩ := y
      rw [ez] at e3; cases e3
      exact ⟨I', hd, Same.refl _, ru.mono s⟩
    | items =>
      obtain ⟨T, k', v', e3, rfl, nT, rfl⟩ := y
      rw [ez] at e3; cases e3
      have sm := upd_sub (o := .tup [kV k, u]) (hd.freeI nT)
      exact ⟨_, hd.imm nT, sm, ⟨T, _, rfl, .inl (.inl upd_same), .cons (kT_rep k) (.cons (ru.mono (s.trans sm)) rfl)⟩⟩
/-- the walk of a dict, as the layer below reads it -/
def DK.walk (w : DK) (td : TE) : TI := fun σ H R => td σ H fun x H1 => ∃ d o kvs, x = .ref d ∧ H1 d = some (.frz o (.dK kvs)) ∧ R (w.it d o kvs) H1
/-- a wish that sees through a lock -/
def WU (X : Cx) (W : WX) : WX := fun c dd σ H => W c dd σ H ∨ ∃ d u od, (∀ o' u', X.H_0 d ≠ some (.frz o' u')) ∧ H d = some (.frz od u) ∧ W c dd σ (upd H d u)
theorem takesU {W : WX} (tk : Takes X W) : Takes X (WU X W) := fun u s' ⟨a, B, sI, pins, σ, H, cls, d, e, I, nb, up, sky, na, os, ag, w⟩ => by
  rcases w with w | ⟨d0, u0, od, nf, hd, w⟩
  · exact tk u s' ⟨a, B, sI, pins, σ, H, cls, d, e, I, nb, up, sky, na, os, ag, w⟩
  · refine tk u s' ⟨a, B, sI, pins, σ, upd H d0 u0, cls, d, e, I.unlock hd nf, nb, up, sky, ?_, os, ag, w⟩
    rw [upd_ne (fun z => by rw [z, hd] at na; cases na)]
    exact na
/-- the statement runs while the thing at d is locked, or it was locked before -/
def tLockX (X : Cx) (t : TS) : TS := fun D σ H => t D σ H ∨ ∃ d u, H d = some u ∧ Mut (some u) ∧ ∀ od, (∀ o' u', X.H_0 d ≠ some (.frz o' u')) → t ⟨fun σ' H' => H' d = some (.frz od u) ∧ D.nx σ' (upd H' d u), fun v H' => H' d = some (.frz od u) ∧ D.rt v (upd H' d u), fun σ' H' => H' d = some (.frz od u) ∧ D.bk σ' (upd H' d u), fun σ' H' => H' d = some (.frz od u) ∧ D.ct σ' (upd H' d u)⟩ σ (upd H d (.frz od u))
theorem ps_lockX {st : Stmt} {t : TS} (h : PS X st t) : PS X st (tLockX X t) := by
  refine ⟨fun pins s σ H D I hw => ?_⟩
  rcases hw with hw | ⟨d, u, hd, mu, hw⟩
  · exact h.run pins s σ H D I hw
  obtain ⟨od, I1⟩ := I.lock hd mu
  have nf := I.nofrz hd mu
  refine thn (h.run pins s σ _ _ I1 (hw od nf)) fun f s1 q => ?_
  cases f with
  | next => obtain ⟨σ', H', I2, e, q⟩ := q; exact ⟨σ', _, I2.unlock e nf, q⟩
  | brk => obtain ⟨σ', H', I2, e, q⟩ := q; exact ⟨σ', _, I2.unlock e nf, q⟩
  | cont => obtain ⟨σ', H', I2, e, q⟩ := q; exact ⟨σ', _, I2.unlock e nf, q⟩
  | ret v => obtain ⟨x, σ', H', I2, r, e, q⟩ := q; exact ⟨x, σ', _, I2.unlock e nf, r, q⟩
def uForD (w : DK) (src : Rho → Sto → List Key → List Tr → Prop) (p : Pat) (tb : US) : US := fun D X ρ S => ∃ ks xs, src ρ S ks xs ∧ uLoop (fun _ => True) p tb D X (DK.list w ks xs) ρ S
theorem dnS_lock {K : PySem.W.Frag} {L : Lk} {F I : Hp} {d : Addr} {od : Obj} {kvs : List (Key × V)} {R : L2.St → Hp → Prop} (hl : L d = none) (hi : I d = some (.dK kvs)) : ∀ ρ S, dnS K L F I R ρ S → dnS K (setL L d (some od)) F I (fun σ' H' => H' d = some (.frz od (.dK kvs)) ∧ R σ' (upd H' d (.dK kvs))) ρ S :=
  fun ρ S h σ' H' I' hd' s' sl' => by
    obtain ⟨e, hd2⟩ := hd'.unlock hl (s' _ _ hi)
    exact ⟨e, h σ' _ I' hd2 s' sl'⟩
theorem dnV_lock {K : PySem.W.Frag} {L : Lk} {F I : Hp} {d : Addr} {od : Obj} {kvs : List (Key × V)} {R : VK} (hl : L d = none) (hi : I d = some (.dK kvs)) : ∀ ρ S, dnV K L F I R ρ S → dnV K (setL L d (some od)) F I (fun v H' => H' d = some (.frz od (.dK kvs)) ∧ R v (upd H' d (.dK kvs))) ρ S :=
  fun ρ S h v H' I' hd' s' r => by
    obtain ⟨e, hd2⟩ := hd'.unlock hl (s' _ _ hi)
    exact ⟨e, h v _ I' hd2 s' r⟩
theorem dnXS_lock {K : PySem.W.Frag} {L : Lk} {F I : Hp} {d : Addr} {od : Obj} {kvs : List (Key × V)} {W : WX} (hl : L d = none) (hi : I d = some (.dK kvs)) (nf : ∀ o' u', X.H_0 d ≠ some (.frz o' u')) : XSLe (dnXS K L F I W) (dnXS K (setL L d (some od)) F I (WU X W)) :=
  fun c fs xs ρ S h dd σ' H' I' hd' s' sl' x => by
    obtain ⟨e, hd2⟩ := hd'.unlock hl (s' _ _ hi)
    obtain ⟨vs, h1, h2, h3, h4, h5, h6⟩ := x
    have ne : dd ≠ d := fun z => by rw [z, e] at h1; cases h1
    exact .inr ⟨d, _, od, nf, e, h dd σ' _ I' hd2 s' sl' ⟨vs, by rw [upd_ne ne]; exact h1, h2, h3, h4, h5, h6⟩⟩
theorem s_forD {W : WX} {tg iter : Expr} {body : List Stmt} {tb : US} {td : TE} {src : Rho → Sto → List Key → List Tr → Prop} {e : Expr} (w : DK) (p : Pat) (hsrc : DSrc X e td src) (hi : PI X tg iter (w.walk td)) (hf : PI X tg iter (w.walk td) → PSs X body (lS X.K (WU X W) tb) → PS X (.For tg iter body [] pos) (tFor (w.walk td) (gPat X.K p) (lS X.K (WU X W) tb))) (hb : TPSs X (WU X W) body tb) :
    TPS X W (.For tg iter body [] pos) (uForD w src p tb) :=
  ⟨wkS (ps_lockX (hf hi hb.pe)) fun D σ H ⟨L, F, S, I, ρ, hd, sl, ks, xs, hs, h⟩ => by
    obtain ⟨d, vs, h1, h2, h3, h4⟩ := hsrc.run hd sl hs
    have hH := hd.sub d _ h1
    cases hl : L d with
    | some od =>
      rw [hl] at hH
      refine .inl (h4 H _ (fun b o _ z => z) ⟨d, od, _, rfl, hH, ?_⟩)
      exact loop_run hb.mono hd sl (it_dict w hl h1 h2 h3) (mono_loop hb.mono (ULe.refl _) (show XSLe (dnXS X.K L F I W) (dnXS X.K L F I (WU X W)) from fun c fs xs ρ S q dd σ' H' I' a b c2 x => Or.inl (q dd σ' H' I' a b c2 x)) _ _ _ h)
    | none =>
      rw [hl] at hH
      refine .inr ⟨d, _, hH, trivial, fun od nf => h4 _ _ (fun b o nb z => by rw [upd_ne nb]; exact z) ⟨d, od, _, rfl, upd_same, ?_⟩⟩
      refine loop_run hb.mono (hd.lock h1) sl (it_dict w (show setL L d (some od) d = some od from if_pos rfl) h1 h2 h3) (mono_loop hb.mono ⟨dnS_lock hl h1, dnV_lock hl h1, dnS_lock hl h1, dnS_lock hl h1⟩ (dnXS_lock hl h1 nf) _ _ _ h),
    fun D D' X X' ρ S hD hX ⟨ks, xs, hs, h⟩ => ⟨ks, xs, hs, mono_loop hb.mono hD hX _ _ _ h⟩⟩
/-! a comprehension over a dict -/
def tLockXE (t : TE) : TE := fun σ H Q => t σ H Q ∨ tLockE t σ H Q
theorem pe_lockX {e : Expr} {t : TE} (h : PE X e t) : PE X e (tLockXE t) := ⟨fun pins s σ H Q I hw => by
  rcases hw with hw | hw
  · exact h.run pins s σ H Q I hw
  · exact (pe_lock h).run pins s σ H Q I hw⟩
def uLcD (w : DK) (src : Rho → Sto → List Key → List Tr → Prop) (p : Pat) (tt : UT) (te : UE) (vs : List Nat) : UE := fun ρ S Q X => ∃ ks xs, src ρ S ks xs ∧ uLcL (fun _ => True) p tt te (wipeR ρ vs) Q (DK.list w ks xs) [] S
theorem lLcD {W : WX} {tt : UT} {te : UE} {td : TE} {src : Rho → Sto → List Key → List Tr → Prop} {e : Expr} {vs : List Nat} (w : DK) (p : Pat) (hsrc : DSrc X e td src) (mt : MonoT tt) (me : MonoE te) (hv : ∀ i ∈ p.slots, i ∈ vs) :
    ∀ σ H R, lE X.K W (uLcD w src p tt te vs) σ H R → tLockXE (tLc (w.walk td) (gPat X.K p) (lT X.K W0 tt) (lE X.K W0 te) vs) σ H R := fun σ H R ⟨L, F, S, I, ρ, hd, sl, ks, xs, hs, h⟩ => by
  obtain ⟨d, us, h1, h2, h3, h4⟩ := hsrc.run hd sl hs
  have hH := hd.sub d _ h1
  cases hl : L d with
  | some od =>
    rw [hl] at hH
    refine .inl (h4 H _ (fun b o _ z => z) ⟨d, od, _, rfl, hH, fun D nD => ?_⟩)
    exact lc_run mt me hv hd sl (it_dict w hl h1 h2 h3) nD h
  | none =>
    rw [hl] at hH
    refine .inr ⟨d, _, hH, trivial, fun od => h4 _ _ (fun b o nb z => by rw [upd_ne nb]; exact z) ⟨d, od, _, rfl, upd_same, fun D nD => ?_⟩⟩
    refine lc_run mt me hv (hd.lock h1) sl (it_dict w (show setL L d (some od) d = some od from if_pos rfl) h1 h2 h3) nD (mono_lcL mt me (dnV_lock hl h1) _ _ _ h)
theorem e_lcD {W : WX} {elt tg iter : Expr} {ifs : List Expr} {scope : Scope} {own : List (Str × Nat)} {tt : UT} {te : UE} {td : TE} {src : Rho → Sto → List Key → List Tr → Prop} {e : Expr} (w : DK) (p : Pat) (hc : X.calm = true) (hN : X.N.Nodup) (hsrc : DSrc X e td src) (hi : PI X tg iter (w.walk td)) (ok : BlkOk X.N X.env.scope scope own) (hv : ∀ i ∈ p.slots, i ∈ own.map (·.2))
    (hg : ∀ (s : Shared) (H : Hp) (C : Addr) (cl : List (Str × Addr)) (fp : List Addr), PG (X.blk s H scope (compEnvC scope cl C X.env) fp) tg (gPat X.K p)) (ht : ∀ (s : Shared) (H : Hp) (C : Addr) (cl : List (Str × Addr)) (fp : List Addr), TPTs (X.blk s H scope (compEnvC scope cl C X.env) fp) ifs tt)
    (he : ∀ (s : Shared) (H : Hp) (C : Addr) (cl : List (Str × Addr)) (fp : List Addr), TPE (X.blk s H scope (compEnvC scope cl C X.env) fp) W0 elt te) (hs : ∀ x, foldedSetIterable iter X.env x = pure x := by intro _; rfl) :
    TPE X W (.ListComp elt [⟨tg, iter, ifs, 0⟩] scope pos) (uLcD w src p tt te (own.map (·.2))) :=
  ⟨wkE (pe_lockX (pe_lc hc hN hi ok hg (fun s H C cl fp => (ht s H C cl fp).pe) (fun s H C cl fp => (he s H C cl fp).pe) hs)) (lLcD w p hsrc (ht X.s_0 X.H_0 0 [] []).mono (he X.s_0 X.H_0 0 [] []).mono hv),
    fun ρ S Q Q' X' X'' hQ hX ⟨ks, xs, hs, h⟩ => ⟨ks, xs, hs, mono_lcL (ht X.s_0 X.H_0 0 [] []).mono (he X.s_0 X.H_0 0 [] []).mono hQ _ _ _ h⟩⟩
/-- name = [.. for .. in ..] -/
theorem s_setLc {W : WX} {i : Nat} {y : Str} {py : Pos} {elt tg iter : Expr} {ifs : List Expr} {scope : Scope} {own : List (Str × Nat)} {spos : Pos} {ui : UI} {tt : UT} {te : UE} (p : Pat) (hc : X.calm = true) (hN : X.N.Nodup) (hy : X.N[i]? = some y) (hyl : X.env.scope.names.lookup y = some .local)
    (hsw : swapsWith (.ListComp elt [⟨tg, iter, ifs, 0⟩] scope pos) (some (.Name y py)) spos.line X.env = pure true) (hi : TPI X W tg iter ui) (ok : BlkOk X.N X.env.scope scope own) (hv : ∀ i ∈ p.slots, i ∈ own.map (·.2))
    (hg : ∀ (s : Shared) (H : Hp) (C : Addr) (cl : List (Str × Addr)) (fp : List Addr), PG (X.blk s H scope (compEnvC scope cl C X.env) fp) tg (gPat X.K p)) (ht : ∀ (s : Shared) (H : Hp) (C : Addr) (cl : List (Str × Addr)) (fp : List Addr), TPTs (X.blk s H scope (compEnvC scope cl C X.env) fp) ifs tt)
    (he : ∀ (s : Shared) (H : Hp) (C : Addr) (cl : List (Str × Addr)) (fp : List Addr), TPE (X.blk s H scope (compEnvC scope cl C X.env) fp) W0 elt te) (hs : ∀ x, foldedSetIterable iter X.env x = pure x := by intro _; rfl) :
    TPS X W (.Assign [.Name y py] (.ListComp elt [⟨tg, iter, ifs, 0⟩] scope pos) spos) (uSet i (uLc ui p tt te (own.map (·.2)))) :=
  have mt := (ht X.s_0 X.H_0 0 [] []).mono
  have me := (he X.s_0 X.H_0 0 [] []).mono
  ⟨wkS (ps_setLc hc hN hy hyl hsw hi.pe ok hg (fun s H C cl fp => (ht s H C cl fp).pe) (fun s H C cl fp => (he s H C cl fp).pe) hs) fun D σ H z => lLc hi.mono mt me hv σ H _ (lSet (mono_lc hi.mono mt me) D σ H z), mono_set (mono_lc hi.mono mt me)⟩
/-- the same, as a cell -/
theorem s_setLcC {W : WX} {i : Nat} {y : Str} {py : Pos} {elt tg iter : Expr} {ifs : List Expr} {scope : Scope} {own : List (Str × Nat)} {spos : Pos} {ui : UI} {tt : UT} {te : UE} (p : Pat) (hc : X.calm = true) (hN : X.N.Nodup) (hy : X.N[i]? = some y) (hyl : X.env.scope.names.lookup y = some .local)
    (hsw : swapsWith (.ListComp elt [⟨tg, iter, ifs, 0⟩] scope pos) (some (.Name y py)) spos.line X.env = pure true) (hi : TPI X W tg iter ui) (ok : BlkOk X.N X.env.scope scope own) (hv : ∀ i ∈ p.slots, i ∈ own.map (·.2))
    (hg : ∀ (s : Shared) (H : Hp) (C : Addr) (cl : List (Str × Addr)) (fp : List Addr), PG (X.blk s H scope (compEnvC scope cl C X.env) fp) tg (gPat X.K p)) (ht : ∀ (s : Shared) (H : Hp) (C : Addr) (cl : List (Str × Addr)) (fp : List Addr), TPTs (X.blk s H scope (compEnvC scope cl C X.env) fp) ifs tt)
    (he : ∀ (s : Shared) (H : Hp) (C : Addr) (cl : List (Str × Addr)) (fp : List Addr), TPE (X.blk s H scope (compEnvC scope cl C X.env) fp) W0 elt te) (hs : ∀ x, foldedSetIterable iter X.env x = pure x := by intro _; rfl) :
    TPS X W (.Assign [.Name y py] (.ListComp elt [⟨tg, iter, ifs, 0⟩] scope pos) spos) (uSet i (uLcC ui p tt te (own.map (·.2)))) :=
  have mt := (ht X.s_0 X.H_0 0 [] []).mono
  have me := (he X.s_0 X.H_0 0 [] []).mono
  ⟨wkS (ps_setLc hc hN hy hyl hsw hi.pe ok hg (fun s H C cl fp => (ht s H C cl fp).pe) (fun s H C cl fp => (he s H C cl fp).pe) hs) fun D σ H z => lLcC hi.mono mt me hv σ H _ (lSet (mono_lcC hi.mono mt me) D σ H z), mono_set (mono_lcC hi.mono mt me)⟩
end
end KQ
namespace KQ
open PySem PySem.Spec PyProof.Rows L2 TL KB
/-! ### own methods -/
structure MthT (P : Program) (w : World) (K : PySem.W.Frag) (mg : Str → Option Value) (base : Heap) (k : Nat) (C : Addr) (m : Str) (t : TSp) : Prop where
  ex : ∃ (f : Addr) (fd : FuncData) (ps : List Str), Meth K C m f ∧ Binds K fd ps [] ∧ FnOk P w K mg base (L2.CX P w) k f fd ps (lSp K t)
  cl : Cls K C
  mono : MonoSp t
theorem fget_none {f : Str} : ∀ {fs : List Str} {xs : List Tr} {vs : List V}, fs.length = xs.length → vs.length = xs.length → fget f fs xs = none → (fs.zip vs).lookup f = none
  | [], _, _, _, _, _ => rfl
  | _ :: _, [], _, e, _, _ => nomatch e
  | _ :: _, _ :: _, [], _, e, _ => nomatch e
  | g :: gs, x :: xs, v :: vs, e1, e2, e => by
    by_cases h : f = g
    · rw [fget, if_pos h] at e; cases e
    · rw [fget, if_neg h] at e
      have hb : (f == g) = false := by simpa using h
      rw [List.zip_cons_cons, List.lookup_cons, hb]
      exact fget_none (by simpa using e1) (by simpa using e2) e
def uMeth (m : Str) (ms : Addr → TSp → Prop) (to : UE) (ta : UA) : UE := fun ρ S Q X => to ρ S (fun x S1 => ∃ C fs xs t, vw S1 x = .ins C fs xs ∧ ms C t ∧ fget m fs xs = none ∧ ta ρ S1 (fun ys S2 => t (x :: ys) S2 Q X) X) X
section
variable {X : Cx} {W : WX} {k : Nat} {m : Str} {ms : Addr → TSp → Prop} {o e : Expr} {es : List Expr} {to : UE} {ta : UA} {apos pos : Pos}
theorem mono_meth (hM : ∀ C t, ms C t → MonoSp t) (mo : MonoE to) (ma : MonoA ta) : MonoE (uMeth m ms to ta) := fun ρ S Q Q' X X' hQ hX h => mo _ _ _ _ _ _ (fun x S1 ⟨C, fs, xs, t, e, c, n, q⟩ => ⟨C, fs, xs, t, e, c, n, ma _ _ _ _ _ _ (fun ys S2 q => hM C t c _ _ _ _ _ _ hQ hX q) hX q⟩) hX h
theorem e_meth {pl : Sem Bool} (hM : ∀ C t, ms C t → MthT X.prog X.w X.K X.mg X.base k C m t) (hr : Room k X.A) (tk : Takes X W) (ho : TPE X W o to) (ha : TPA X W (e :: es) ta)
    (ht : eval (.Call (.Attribute o m apos) (e :: es) [] pos) X.env = (do
      let ov ← eval o X.env
      standAt apos.atName
      let (f, first) ← holding [ov] (getMethod ov m pl)
      callWith pos f first (backTo pos (starEach (e :: es) X.env)) (backToKw pos (keywordEach [] X.env))) := by rfl)
    (hst : starEach (e :: es) X.env = (false, eval e X.env) :: starEach es X.env := by rfl) (hpl : (backTo pos (starEach es X.env)).any (·.1) = false := by rfl) : TPE X W (.Call (.Attribute o m apos) (e :: es) [] pos) (uMeth m ms to ta) := by
  refine ⟨⟨fun pins s σ H Q I h => ?_⟩, mono_meth (fun C t c => (hM C t c).mono) ho.mono ha.mono⟩
  obtain ⟨L, F, S, I0, ρ, hd, sl, h⟩ := h
  have step : lE X.K W to σ H (fun x H1 => ∃ a C dx fs t, x = .ref a ∧ H1 a = some (.ins C dx fs) ∧ fs.lookup m = none ∧ ms C t ∧ lA X.K W ta σ H1 (fun vs H2 => lSp X.K t (.ref a :: vs) H2 Q (WE W σ))) :=
    lE_then ho.mono hd sl h (fun _ _ _ _ h => h) fun x S1 v H1 I1 ⟨C, fs, xs, t, e, c, n, q⟩ hd1 s1 sl1 r => by
      obtain ⟨a, dx, vs, rfl, h1, hl, h2⟩ := vw_ins hd1 r e
      refine ⟨a, C, dx, _, t, rfl, h1, fget_none hl h2.len n, c, lA_then ha.mono hd1 sl1 q (dnX_up s1) fun ys S2 us H2 I2 q2 hd2 s2 sl2 ry => ?_⟩
      exact ⟨L, F, S2, I2, x :: ys, hd2, .cons (r.mono s2) ry, (hM C t c).mono _ _ _ _ _ _ (dnV_up (s1.trans s2)) (dnX_up (s1.trans s2)) q2⟩
  refine PySem.W.methodCall_KW (pl := pl) (thn (ho.pe.run pins s σ H _ I step) fun u s1 ⟨x, H1, I1, rx, a, C, dx, fs, t, ex, ea, l, c, q⟩ => ?_) ht
  subst ex
  cases rx
  obtain ⟨⟨f, fd, ps, M, b, Fn⟩, cl, _⟩ := hM C t c
  refine getmeth_ok I1 ea cl M l (PySem.W.callWith_K (first := [.ref a]) (h₀ := X.base) I.ok.mod.kin M.kp (thn (ha.pe.run pos pins s1 σ H1 _ I1 q) fun us s2 ⟨vs, H2, I2, r, q2⟩ => ⟨I2.kIn, ?_⟩) hst hpl)
  exact run_fnS (us := .ref a :: us) (vs := .ref a :: vs) (E := WE W) Fn hr b (passAt tk σ) I2 (.cons rfl r) q2
theorem e_meth0 {pl : Sem Bool} (hM : ∀ C t, ms C t → MthT X.prog X.w X.K X.mg X.base k C m t) (hr : Room k X.A) (tk : Takes X W) (ho : TPE X W o to)
    (ht : eval (.Call (.Attribute o m apos) [] [] pos) X.env = (do
      let ov ← eval o X.env
      standAt apos.atName
      let (f, first) ← holding [ov] (getMethod ov m pl)
      callWith pos f first (backTo pos (starEach [] X.env)) (backToKw pos (keywordEach [] X.env))) := by rfl) : TPE X W (.Call (.Attribute o m apos) [] [] pos) (uMeth m ms to uNil) := by
  refine ⟨⟨fun pins s σ H Q I h => ?_⟩, mono_meth (fun C t c => (hM C t c).mono) ho.mono (a_nil (X := X) (W := W)).mono⟩
  obtain ⟨L, F, S, I0, ρ, hd, sl, h⟩ := h
  have step : lE X.K W to σ H (fun x H1 => ∃ a C dx fs t, x = .ref a ∧ H1 a = some (.ins C dx fs) ∧ fs.lookup m = none ∧ ms C t ∧ lSp X.K t [.ref a] H1 Q (WE W σ)) :=
    lE_then ho.mono hd sl h (fun _ _ _ _ h => h) fun x S1 v H1 I1 ⟨C, fs, xs, t, e, c, n, q⟩ hd1 s1 sl1 r => by
      obtain ⟨a, dx, vs, rfl, h1, hl, h2⟩ := vw_ins hd1 r e
      exact ⟨a, C, dx, _, t, rfl, h1, fget_none hl h2.len n, c, L, F, S1, I1, [x], hd1, .cons r rfl, (hM C t c).mono _ _ _ _ _ _ (dnV_up s1) (dnX_up s1) q⟩
  refine PySem.W.methodCall_KW (pl := pl) (thn (ho.pe.run pins s σ H _ I step) fun u s1 ⟨x, H1, I1, rx, a, C, dx, fs, t, ex, ea, l, c, q⟩ => ?_) ht
  subst ex
  cases rx
  obtain ⟨⟨f, fd, ps, M, b, Fn⟩, cl, _⟩ := hM C t c
  exact getmeth_ok I1 ea cl M l (PySem.W.callWith_K0 (first := [.ref a]) I1.kIn M.kp (run_fnS (us := [.ref a]) (vs := [.ref a]) (E := WE W) Fn hr b (passAt tk σ) I1 (.cons rfl .nil) q))
end
theorem dnX_closed {K : PySem.W.Frag} {L : Lk} {F I : Hp} {W : WX} {σ : L2.St} : ClosedX (dnX K L F I W σ) := fun c fs ys S S' sb z d H' I' hd' s' ⟨vs, h1, h2, h3, h4, h5, h6⟩ => z d H' I' (hd'.fewer sb) s' ⟨vs, h1, h2, h3, h4, sb.noneAt h5, h6⟩
/-! ### a class called -/
structure NewT (P : Program) (w : World) (K : PySem.W.Frag) (mg : Str → Option Value) (base : Heap) (k : Nat) (x : Str) (C : Addr) (t : TSp) : Prop where
  ex : ∃ (f : Addr) (fd : FuncData) (ps : List Str) (dts : List Tr) (tI : TSp) (ds : List Value) (dvs : List V), Mk K C f ∧ mg x = some (.ref C) ∧ Binds K fd ps ds ∧ Vals dvs ds ∧ (∀ I, RepL K I dts dvs) ∧ FnOk P w K mg base (L2.CX P w) k f fd ps (lSp K tI) ∧ MonoSp tI ∧
    ∀ xs S Q X, Closed Q → ClosedX X → t xs S Q X → ∀ a, S a = none → tI (.ref a :: (xs ++ dts)) (put S a (.ins C [] [])) (fun v S2 => v = .non ∧ Q (.ref a) S2) X
  mono : MonoSp t
section
variable {X : Cx} {W : WX} {k : Nat} {x : Str} {C : Addr} {t : TSp} {e : Expr} {es : List Expr} {ta : UA} {p pos : Pos}
theorem run_new (N : NewT X.prog X.w X.K X.mg X.base k x C t) (hr : Room (k + 1) X.A) (tk : Takes X W) {pins : List (Addr × Obj)} {σ : L2.St} {H : Hp} {s : Shared} {Q : VK} {us : List Value} {vs : List V} (I : Inv X pins σ H s) (r : Vals vs us)
    (h : lSp X.K t vs H Q (WE W σ)) : wpAny (model X.prog X.w) X.A (call (.ref C) us) (EP X pins σ Q) X.xe s := by
  obtain ⟨⟨f, fd, ps, dts, tI, ds, dvs, M, g, b, vd, rd, Fn, mI, w⟩, _⟩ := N
  obtain ⟨L, F, S, I0, xs, hd, rx, q⟩ := h
  have n1 : H (s.heap.objs.size + 1) = none := I.hok.fresh (Nat.le_succ _)
  have n2 : H s.heap.objs.size = none := I.hok.fresh (Nat.le_refl _)
  have ne : s.heap.objs.size ≠ s.heap.objs.size + 1 := Nat.ne_of_lt (Nat.lt_succ_self _)
  have hd1 : Hd X.K L F (upd H s.heap.objs.size (.own (s.heap.objs.size + 1))) S I0 := hd.un n2
  have n3 : upd H s.heap.objs.size (.own (s.heap.objs.size + 1)) (s.heap.objs.size + 1) = none := by rw [upd_ne ne.symm]; exact n1
  have hd2 := hd1.cell (c := .ins C [] []) (o := .ins C s.heap.objs.size []) n3 ⟨_, [], rfl, rfl, rfl⟩
  have q1 := w xs S _ _ dnV_closed dnX_closed q (s.heap.objs.size + 1) (hd.freeS n1)
  have hq : lSp X.K tI (.ref (s.heap.objs.size + 1) :: (vs ++ dvs)) (upd (upd H s.heap.objs.size (.own (s.heap.objs.size + 1))) (s.heap.objs.size + 1) (.ins C s.heap.objs.size [])) (fun v H2 => v = .non ∧ Q (.ref (s.heap.objs.size + 1)) H2) (WE W σ) :=
    ⟨L, F, _, I0, .ref (s.heap.objs.size + 1) :: (xs ++ dts), hd2, .cons rfl (rx.app (rd I0)), mI _ _ _ _ _ _ (fun y S2 ⟨e, z⟩ v H' I' h1 h2 h3 => by subst e; cases h3; exact ⟨rfl, z _ H' I' h1 h2 rfl⟩) (fun _ _ _ _ z => z) q1⟩
  have I2 := Inv.made (C := C) I
  have r2 : Vals (V.ref (s.heap.objs.size + 1) :: (vs ++ dvs)) (Value.ref (s.heap.objs.size + 1) :: (us ++ ds)) := .cons rfl (r.append vd)
  have hl : (Value.ref (s.heap.objs.size + 1) :: us ++ ds).length = ps.length := by
    have e := r2.length
    rw [Fn.len _ _ _ _ hq] at e
    exact e.symm
  refine wpAny_call (make_map (f := f) I.kIn M.makes M.init (beq_iff_eq.mp M.fn) (codeAny_mono (Fn.run _ X.stack _ _ ⟨Value.ref (s.heap.objs.size + 1) :: us, []⟩ _ _ _ (WE W σ) (hr.make C us []) (I2.env0.make C us []) (b _ (Value.ref (s.heap.objs.size + 1) :: us) I2.kIn hl) r2 hq) fun r s' hq' => ?_))
  cases r with
  | error e => exact passAt tk σ pins _ _ e s' I2 hq'
  | ok fl =>
    cases fl with
    | ret u =>
      obtain ⟨v, H', I3, rv, ev, q3⟩ := I2.after hq'
      subst ev
      exact ⟨rv, ⟨V.ref (s.heap.objs.size + 1), H', I3, rfl, q3⟩⟩
    | next => exact hq'.elim
    | brk => exact hq'.elim
    | cont => exact hq'.elim
theorem e_new (N : NewT X.prog X.w X.K X.mg X.base k x C t) (hr : Room (k + 1) X.A) (hg : Gl X x) (tk : Takes X W) (ha : TPA X W (e :: es) ta) (hdb : (x == ("__debug__" : Str)) = false := by decide)
    (he : starEach (e :: es) X.env = (false, eval e X.env) :: starEach es X.env := by rfl) (hpl : (backTo pos (starEach es X.env)).any (·.1) = false := by rfl) : TPE X W (.Call (.Name x p) (e :: es) [] pos) (uCall t ta) := by
  refine ⟨⟨fun pins s σ H Q I h => ?_⟩, mono_call N.mono ha.mono⟩
  have h' := lCall (X := X) (W := W) N.mono ha.mono σ H Q h
  obtain ⟨⟨f, fd, ps, dts, tI, ds, dvs, M, g, _⟩, _⟩ := id N
  refine wpAny_Call_Name_kw (ld_glob I hg g ?_ hdb)
  exact PySem.W.callWith_K (h₀ := X.base) I.ok.mod.kin M.kp (thn (ha.pe.run pos pins s σ H _ I h') fun us s1 ⟨vs, H1, I1, r, q⟩ => ⟨I1.kIn, run_new N hr tk I1 r q⟩) he hpl
theorem e_new0 (N : NewT X.prog X.w X.K X.mg X.base k x C t) (hr : Room (k + 1) X.A) (hg : Gl X x) (tk : Takes X W) (hdb : (x == ("__debug__" : Str)) = false := by decide) : TPE X W (.Call (.Name x p) [] [] pos) (uCall t uNil) := by
  refine ⟨⟨fun pins s σ H Q I h => ?_⟩, mono_call N.mono (a_nil (X := X) (W := W)).mono⟩
  obtain ⟨⟨f, fd, ps, dts, tI, ds, dvs, M, g, _⟩, _⟩ := id N
  refine wpAny_Call_Name_kw (ld_glob I hg g ?_ hdb)
  obtain ⟨L, F', S, I', ρ, hd, sl, q⟩ := h
  exact PySem.W.callWith_K0 I.kIn M.kp (run_new (us := []) (vs := []) N hr tk I .nil ⟨L, F', S, I', [], hd, rfl, q⟩)
end
/-! ### defs and methods by their bodies -/
section
variable {P : Program} {w : World} {K : PySem.W.Frag} {mg : Str → Option Value} {base : Heap}
/-- a body that keeps a promise: qual the def's long name -/
structure BodyT (P : Program) (w : World) (K : PySem.W.Frag) (mg : Str → Option Value) (base : Heap) (k : Nat) (qual : Str) (st : Stmt) (N : List Str) (us : US) : Prop where
  ex : ∀ (f : Addr) (cdv : Value) (A : Around) (outer : List Env) (s : Shared) (H : Hp) (E : XK), Room k (A.deeper (envOfC qual (defScope st) s.heap.objs.size f cdv)) → Takes (cxOf (L2.CX P w) P w K mg base N qual (defScope st) f cdv A outer s H E) (fun cls d _ H => E cls d H) →
      PassesOwn (model P w) (cxOf (L2.CX P w) P w K mg base N qual (defScope st) f cdv A outer s H E).A (cxOf (L2.CX P w) P w K mg base N qual (defScope st) f cdv A outer s H E).env (cxOf (L2.CX P w) P w K mg base N qual (defScope st) f cdv A outer s H E).xe →
      TPSs (cxOf (L2.CX P w) P w K mg base N qual (defScope st) f cdv A outer s H E) (fun cls d _ H => E cls d H) (defBody st) us
theorem fnD_ok {x qual : Str} {st : Stmt} {dvs : List V} {kws : List (Str × V)} {f : Addr} {fd : FuncData} {N ps : List Str} {k : Nat} {tsp : TSp} {us : US} (D : FunD K x qual (defArgs st) (defBody st) (defScope st) dvs kws f fd) (S : FnScope N ps (defScope st))
    (len : ∀ xs S Q X, tsp xs S Q X → xs.length = ps.length) (body : BodyT P w K mg base k qual st N us)
    (h : ∀ xs S Q X, Closed Q → ClosedX X → tsp xs S Q X → us (endU Q) (endX X) (startT N xs) S) : FnOk P w K mg base (L2.CX P w) (k + 1) f fd ps (lSp K tsp) := by
  refine D.ok S (fun vs H Q E ⟨_, _, _, _, xs, _, r, q⟩ => by rw [r.len]; exact len _ _ _ _ q) fun cdv A outer s H vs Q E hr ⟨L, F, S0, I, xs, hd, r, q⟩ => ?_
  have B := body.ex f cdv A outer s H E hr (takes_of rfl rfl rfl rfl) (passes_of rfl)
  exact ⟨_, B.pe, body_ok (st := st) (tsp := tsp) (X := cxOf (L2.CX P w) P w K mg base N qual (defScope st) f cdv A outer s H E) B.mono hd r (h xs S0 _ _ dnV_closed (fun c fs ys S S' sb z d H' I' hd' s' ⟨vs, h1, h2, h3, h4, h5, h6⟩ => z d H' I' (hd'.fewer sb) s' ⟨vs, h1, h2, h3, h4, sb.noneAt h5, h6⟩) q)⟩
/-- a method without defaults -/
theorem DefM.mth {C : Addr} {m qual : Str} {st : Stmt} {N ps : List Str} {k : Nat} {tsp : TSp} {us : US} (D : DefM K C m qual st []) (cl : Cls K C) (S : FnScope N ps (defScope st))
    (hb : ∀ (kV doc pm : Value) (an : Option Addr) (cdv ct : Value) (us : List Value), us.length = ps.length → bindArgs (PySem.W.fnOf m qual (defArgs st) (defBody st) (defScope st) .none kV doc pm an cdv ct) ⟨us, []⟩ = pure (ps.zip us))
    (len : ∀ xs S Q X, tsp xs S Q X → xs.length = ps.length) (mono : MonoSp tsp) (body : BodyT P w K mg base k qual st N us)
    (h : ∀ xs S Q X, Closed Q → ClosedX X → tsp xs S Q X → us (endU Q) (endX X) (startT N xs) S) : MthT P w K mg base (k + 1) C m tsp := by
  obtain ⟨f, fd, F, h1, h2⟩ := D.ex
  exact ⟨⟨f, fd, ps, ⟨h1, h2, F.kp⟩, F.bindsN hb, fnD_ok F S len body h⟩, cl, mono⟩
theorem DefM.mthBot {C : Addr} {m qual : Str} {st : Stmt} {ps : List Str} {k : Nat} {tsp : TSp} (D : DefM K C m qual st []) (cl : Cls K C)
    (hb : ∀ (kV doc pm : Value) (an : Option Addr) (cdv ct : Value) (us : List Value), us.length = ps.length → bindArgs (PySem.W.fnOf m qual (defArgs st) (defBody st) (defScope st) .none kV doc pm an cdv ct) ⟨us, []⟩ = pure (ps.zip us))
    (h : ∀ xs S Q X, ¬ tsp xs S Q X) : MthT P w K mg base k C m tsp := by
  obtain ⟨f, fd, F, h1, h2⟩ := D.ex
  exact ⟨⟨f, fd, ps, ⟨h1, h2, F.kp⟩, F.bindsN hb, ⟨fun vs H Q E ⟨_, _, _, _, xs, _, r, q⟩ => (h _ _ _ _ q).elim, fun _ _ _ _ _ _ _ _ _ _ _ _ _ ⟨_, _, _, _, xs, _, r, q⟩ => (h _ _ _ _ q).elim⟩⟩, cl, fun xs S Q Q' X X' _ _ q => (h _ _ _ _ q).elim⟩
/-- a class by its __init__ without defaults -/
theorem DefM.newT {C : Addr} {x qual : Str} {st : Stmt} {N ps : List Str} {k : Nat} {tI t : TSp} {us : US} (D : DefM K C "__init__" qual st []) (hmk : PySem.W.makesIn K C = true) (hkp : PySem.W.keepIn K (.ref C) = true) (g : mg x = some (.ref C)) (S : FnScope N ps (defScope st))
    (hb : ∀ (kV doc pm : Value) (an : Option Addr) (cdv ct : Value) (us : List Value), us.length = ps.length → bindArgs (PySem.W.fnOf "__init__" qual (defArgs st) (defBody st) (defScope st) .none kV doc pm an cdv ct) ⟨us, []⟩ = pure (ps.zip us))
    (len : ∀ xs S Q X, tI xs S Q X → xs.length = ps.length) (mI : MonoSp tI) (mono : MonoSp t) (body : BodyT P w K mg base k qual st N us)
    (h : ∀ xs S Q X, Closed Q → ClosedX X → tI xs S Q X → us (endU Q) (endX X) (startT N xs) S)
    (hw : ∀ xs S Q X, Closed Q → ClosedX X → t xs S Q X → ∀ a, S a = none → tI (.ref a :: xs) (put S a (.ins C [] [])) (fun v S2 => v = .non ∧ Q (.ref a) S2) X) : NewT P w K mg base (k + 1) x C t := by
  obtain ⟨f, fd, F, h1, h2⟩ := D.ex
  exact ⟨⟨f, fd, ps, [], tI, [], [], ⟨hmk, h1, h2, hkp⟩, g, F.bindsN hb, .nil, fun _ => rfl, fnD_ok F S len body h, mI, fun xs S Q X c cx q a n => by rw [List.append_nil]; exact hw xs S Q X c cx q a n⟩, mono⟩
/-- a class by its __init__ with one default: the default is written out (n = 1) or taken (n = 0) -/
theorem DefM.newT1 {C : Addr} {x qual : Str} {st : Stmt} {dv : V} {N ps : List Str} {k : Nat} {tI t : TSp} {us : US} (D : DefM K C "__init__" qual st [dv]) (hmk : PySem.W.makesIn K C = true) (hkp : PySem.W.keepIn K (.ref C) = true) (g : mg x = some (.ref C)) (S : FnScope N ps (defScope st))
    (hb : ∀ (T : Addr) (kV doc pm : Value) (an : Option Addr) (cdv ct : Value) (us its : List Value), us.length = ps.length → its.length = 1 →
      ∃ k, bindArgs (PySem.W.fnOf "__init__" qual (defArgs st) (defBody st) (defScope st) (.ref T) kV doc pm an cdv ct) ⟨us, []⟩ = seqItems? (.ref T) >>= k ∧ k (some its.toArray) = pure (ps.zip (us ++ its.drop 1)))
    (len : ∀ xs S Q X, tI xs S Q X → xs.length = ps.length) (mI : MonoSp tI) (mono : MonoSp t) (body : BodyT P w K mg base k qual st N us)
    (h : ∀ xs S Q X, Closed Q → ClosedX X → tI xs S Q X → us (endU Q) (endX X) (startT N xs) S)
    (hw : ∀ xs S Q X, Closed Q → ClosedX X → t xs S Q X → ∀ a, S a = none → tI (.ref a :: xs) (put S a (.ins C [] [])) (fun v S2 => v = .non ∧ Q (.ref a) S2) X) : NewT P w K mg base (k + 1) x C t := by
  obtain ⟨f, fd, F, h1, h2⟩ := D.ex
  obtain ⟨ds, v, b⟩ := F.binds1 (ps := ps) ps.length 1 (by simp) (by simp) (fun T kV doc pm an cdv ct us its h3 h4 => hb T kV doc pm an cdv ct us its h3 h4)
  cases v
  exact ⟨⟨f, fd, ps, [], tI, [], [], ⟨hmk, h1, h2, hkp⟩, g, b, .nil, fun _ => rfl, fnD_ok F S len body h, mI, fun xs S Q X c cx q a n => by rw [List.append_nil]; exact hw xs S Q X c cx q a n⟩, mono⟩
end
/-! ### names of the module, types -/
section
variable {X : Cx} {W : WX} {pos : Pos}
theorem e_gi {x : Str} {n : Int} (hg : Gl X x) (h : ∃ t, X.mg x = some (.int n t)) (hd : (x == ("__debug__" : Str)) = false := by decide) : TPE X W (.Name x pos) (uC (.int n)) := e_const (pe_gi hg h hd) fun _ => rfl
theorem e_ty {x : Str} {T : String} (hg : Gl X x) (hm : X.mg x = none) (hv : bootBuiltins x = some (.type T)) (hn : x ≠ "__name__" := by decide) (hdb : (x == ("__debug__" : Str)) = false := by decide) : TPE X W (.Name x pos) (uC (.ty T)) :=
  e_const (pe_bltn (v := .ty T) hg hm hv rfl hn hdb) fun _ => rfl
theorem e_cls {x : Str} {C : Addr} (hg : Gl X x) (h : X.mg x = some (.ref C)) (hd : (x == ("__debug__" : Str)) = false := by decide) : TPE X W (.Name x pos) (uC (.ref C)) := e_const (pe_glob (v := .ref C) hg h rfl hd) fun _ => rfl
/-- {} that will change -/
def uDNew : UE := fun _ S Q _ => ∀ p, S p = none → Q (.ref p) (put S p (.dic [] []))
theorem e_dnew : TPE X W (.Dict [] [] pos) uDNew := ⟨wkE pe_dnewK fun σ H R ⟨L, F, S, I, ρ, hd, sl, q⟩ p np => q p (hd.freeS np) _ _ I (hd.cell np ⟨[], rfl, rfl, rfl⟩) (Same.refl _) rfl, fun ρ S Q Q' X X' hQ hX h p np => hQ _ _ (h p np)⟩
end
end KQ
namespace KQ
open PySem PySem.Spec PyProof.Rows L2 TL KB
section
variable {K : PySem.W.Frag} {X : Cx} {W : WX}
theorem o_ipadd : OpT K (ipI fun i j => i + j) (gInt2 (fun _ _ => True) fun i j => .int (i + j)) := opt_int2 (f := fun i j => .int (i + j)) (g := fun i j => .int (i + j)) (fun _ q => ⟨_, _, rfl, rfl, q⟩) fun _ _ _ => rfl
theorem o_ipsub : OpT K (ipI fun i j => i - j) (gInt2 (fun _ _ => True) fun i j => .int (i - j)) := opt_int2 (f := fun i j => .int (i - j)) (g := fun i j => .int (i - j)) (fun _ q => ⟨_, _, rfl, rfl, q⟩) fun _ _ _ => rfl
/-- o.f += e, o a cell, whole numbers -/
def uFldAug (K : PySem.W.Frag) (f : Str) (g : Int → Int → Int) (to te : UE) : US := fun D X ρ S => to ρ S (fun x S1 => ∃ a C fs xs i, x = .ref a ∧ S1 a = some (.ins C fs xs) ∧ ClsF K C f ∧ fget f fs xs = some (.int i) ∧ te ρ S1 (fun y S2 => ∃ fs2 xs2 j, vw S2 y = .int j ∧ S2 a = some (.ins C fs2 xs2) ∧ fs2.length < 1000 ∧ D.nx ρ (put S2 a (.ins C (fputN f fs2) (fputX f (.int (g i j)) fs2 xs2)))) (atR X ρ)) (atR X ρ)
theorem s_fldaug {o e : Expr} {f : Str} {to te : UE} {op : Operator} {g : Int → Int → Int} {p' pos : Pos} (ho : TPE X W o to) (he : TPE X W e te) (hb : PE X o (lE X.K W to) → PE X e (lE X.K W te) → PS X (.AugAssign (.Attribute o f p') op e pos) (sFldAug X.K (lE X.K W to) (lE X.K W te) (fun x y H Q => ∃ i j, x = .int i ∧ y = .int j ∧ Q (.int (g i j)) H) f)) :
    TPS X W (.AugAssign (.Attribute o f p') op e pos) (uFldAug X.K f g to te) :=
  ⟨wkS (hb ho.pe he.pe) fun D σ H ⟨L, F, S, I, ρ, hd, sl, h⟩ => lE_then ho.mono hd sl h (dnXS_at sl) fun x S1 v H1 I1 ⟨a, C, fs, xs, i, e, ea, c, eg, q⟩ hd1 s1 sl1 rx => by
      subst e
      cases rx
      obtain ⟨_, _, o, h1, dx, vs, rfl, el, rl⟩ := hd1.cel a _ ea
      obtain ⟨w, e1, r1⟩ := fget_lk rl eg
      cases r1
      refine ⟨a, C, dx, _, _, rfl, h1, c.cl, c.no, e1, lE_then he.mono hd1 sl1 q (fun c f x S' z => dnXS_at sl1 _ _ _ _ (dnXS_up s1 _ _ _ _ _ z)) fun y S2 u H2 I2 ⟨fs2, xs2, j, ej, ea2, hl, q2⟩ hd2 s2 sl2 ry => ?_⟩
      cases vw_eq_int hd2 ry ej
      obtain ⟨_, _, o2, h2, dx2, vs2, rfl, el2, rl2⟩ := hd2.cel a _ ea2
      obtain ⟨ws, z1, z2, z3⟩ := fput_rep (f := f) (y := .int (g i j)) (w := .int (g i j)) rfl el2 rl2
      refine ⟨i, j, rfl, rfl, dx2, _, h2, by rw [List.length_zip]; omega, ?_⟩
      rw [z1]
      exact q2 σ _ I2 (hd2.mut ea2 ⟨dx2, ws, rfl, z2, z3⟩) (s1.trans s2) sl2, fun D D' X X' ρ S hD hX h => ho.mono _ _ _ _ _ _ (fun x S1 ⟨a, C, fs, xs, i, e, ea, c, eg, q⟩ => ⟨a, C, fs, xs, i, e, ea, c, eg, he.mono _ _ _ _ _ _ (fun y S2 ⟨fs2, xs2, j, ej, ea2, hl, q2⟩ => ⟨fs2, xs2, j, ej, ea2, hl, hD.1 _ _ q2⟩) (fun _ _ _ _ z => hX _ _ _ _ _ z) q⟩) (fun _ _ _ _ z => hX _ _ _ _ _ z) h⟩
/-! ### dict displays -/
def uPairs : List (UE × UE) → Rho → Sto → (List (Tr × Tr) → Sto → Prop) → QX → Prop
  | [], _, S, Q, _ => Q [] S
  | (a, b) :: r, ρ, S, Q, X => a ρ S (fun x S1 => b ρ S1 (fun y S2 => uPairs r ρ S2 (fun ps S3 => Q ((x, y) :: ps) S3) X) X) X
def keysOf : List (Tr × Tr) → Option (List Key)
  | [] => some []
  | (k, _) :: r => match keyT k, keysOf r with
    | some k, some ks => some (k :: ks)
    | _, _ => none
inductive MonoPs : List (UE × UE) → Prop
  | nil : MonoPs []
  | cons {a b : UE} {r : List (UE × UE)} (ha : MonoE a) (hb : MonoE b) (hr : MonoPs r) : MonoPs ((a, b) :: r)
theorem mono_pairs : ∀ {trs : List (UE × UE)}, MonoPs trs → ∀ ρ S (Q Q' : List (Tr × Tr) → Sto → Prop) X X', (∀ y S, Q y S → Q' y S) → XLe X X' → uPairs trs ρ S Q X → uPairs trs ρ S Q' X'
  | _, .nil, ρ, S, Q, Q', X, X', hQ, hX, h => hQ _ _ h
  | _, .cons ha hb hr, ρ, S, Q, Q', X, X', hQ, hX, h => ha _ _ _ _ _ _ (fun x S1 q => hb _ _ _ _ _ _ (fun y S2 q => mono_pairs hr _ _ _ _ _ _ (fun ps S3 q => hQ _ _ q) hX q) hX q) hX h
structure TPPs (X : Cx) (W : WX) (pos : Pos) (keys : List (Option Expr)) (values : List Expr) (trs : List (UE × UE)) : Prop where
  pe : PPs X pos keys values (trs.map fun ab => (lE X.K W ab.1, lE X.K W ab.2))
  mono : MonoPs trs
theorem pp_nil {pos : Pos} : TPPs X W pos [] [] [] := ⟨pps_nil, .nil⟩
def RepP (K : PySem.W.Frag) (I : Hp) : List (Tr × Tr) → List (V × V) → Prop
  | [], vs => vs = []
  | (a, b) :: r, vs => ∃ v w ws, vs = (v, w) :: ws ∧ Rep K I a v ∧ Rep K I b w ∧ RepP K I r ws
theorem pairs_run {L : Lk} {F : Hp} {σ : L2.St} {ρ : Rho} : ∀ {trs : List (UE × UE)}, MonoPs trs → ∀ {H I : Hp} {S : Sto} {Q : List (Tr × Tr) → Sto → Prop} {X0 : QX} {R : List (V × V) → Hp → Prop}, Hd K L F H S I → Slots K I σ ρ → uPairs trs ρ S Q X0 → XLe X0 (dnX K L F I W σ) →
    (∀ ps S' vs H' I', Q ps S' → Hd K L F H' S' I' → Same I I' → RepP K I' ps vs → R vs H') → tPairs (trs.map fun ab => (lE K W ab.1, lE K W ab.2)) σ H R
  | _, .nil, H, I, S, Q, X0, R, hd, sl, h, hx, k => k [] S [] H I h hd (Same.refl _) rfl
  | _, .cons ha hb hr, H, I, S, Q, X0, R, hd, sl, h, hx, k => by
    refine lE_then ha hd sl h hx fun x S1 v H1 I1 q hd1 s1 sl1 rx => lE_then hb hd1 sl1 q (fun c f x S z => dnX_up s1 _ _ _ _ (hx _ _ _ _ z)) fun y S2 w H2 I2 q2 hd2 s2 sl2 ry => ?_
    refine pairs_run hr hd2 sl2 q2 (fun c f x S z => dnX_up (s1.trans s2) _ _ _ _ (hx _ _ _ _ z)) fun ps S' vs H' I' q' hd' s' r' => ?_
    exact k _ S' _ H' I' q' hd' ((s1.trans s2).trans s') ⟨v, w, vs, rfl, rx.mono (s2.trans s'), ry.mono s', r'⟩
theorem keysOf_rep {I : Hp} : ∀ {ps : List (Tr × Tr)} {vs : List (V × V)} {ks : List Key}, RepP K I ps vs → keysOf ps = some ks → ∃ ws, vs = (ks.zip ws).map (fun kv => (kV kv.1, kv.2)) ∧ ks.length = (ps.map (·.2)).length ∧ RepL K I (ps.map (·.2)) ws
  | [], vs, ks, r, e => by cases r; cases e; exact ⟨[], rfl, rfl, rfl⟩
  | (a, b) :: ps, vs, ks, r, e => by
    obtain ⟨v, w, us, rfl, ra, rb, rr⟩ := r
    unfold keysOf at e
    split at e
    · rename_i k ks' e1 e2
      cases e
      obtain ⟨ws, h1, h2, h3⟩ := keysOf_rep rr e2
      have hk : v = kV k := by
        cases a with
        | int n => cases e1; exact ra
        | str n => cases e1; exact ra
        | _ => cases e1
      subst hk
      exact ⟨w :: ws, by simp [h1], by simp [h2], .cons rb h3⟩
    · cases e
theorem merge_nodup {kvs more : List (Key × V)} : ((kvs ++ more).map (·.1)).Nodup → mergeK kvs more = kvs ++ more := by
  induction more generalizing kvs with
  | nil => intro _; simp [mergeK]
  | cons p r ih =>
    intro h
    obtain ⟨k, v⟩ := p
    have hn : (kvs.any fun kv => decide (kv.1 = k)) = false := by
      rw [Bool.eq_false_iff]
      intro z
      obtain ⟨q, hq, e⟩ := List.any_eq_true.mp z
      have e := of_decide_eq_true e
      rw [List.map_append, List.nodup_append] at h
      exact h.2.2 q.1 (List.mem_map.mpr ⟨q, hq, rfl⟩) k (by simp) e
    have e1 : putK kvs k v = kvs ++ [(k, v)] := by unfold putK; rw [if_neg (by rw [hn]; exact Bool.false_ne_true)]
    show mergeK (putK kvs k v) r = _
    rw [e1, ih (by simpa using h)]
    simp
/-- a display that will change -/
def uDisp (trs : List (UE × UE)) : UE := fun ρ S Q X => uPairs trs ρ S (fun ps S2 => ∃ ks, keysOf ps = some ks ∧ ks.Nodup ∧ ks.length ≤ 15 ∧ ∀ p, S2 p = none → Q (.ref p) (put S2 p (.dic ks (ps.map (·.2))))) X
theorem e_disp {pos : Pos} {keys : List (Option Expr)} {values : List Expr} {trs : List (UE × UE)} (h : TPPs X W pos keys values trs) (hb : PPs X pos keys values (trs.map fun ab => (lE X.K W ab.1, lE X.K W ab.2)) → PE X (.Dict keys values pos) (tDisp (trs.map fun ab => (lE X.K W ab.1, lE X.K W ab.2)))) : TPE X W (.Dict keys values pos) (uDisp trs) :=
  ⟨wkE (hb h.pe) fun σ H R ⟨L, F, S, I, ρ, hd, sl, q⟩ p np => by
    refine pairs_run h.mono (hd.frame np) sl q (fun c f x S z d H' I' hd' s' ⟨vs, z1, z2, z3, z4, z5, z6⟩ => z d H' I' (hd'.lessF (upd_sub (hd.freeF np))) s' ⟨vs, z1, z2, z3, z4, z5, (upd_sub (hd.freeF np)).free z6⟩) fun ps S' vs H' I' ⟨ks, ek, nd, hl, q'⟩ hd' s' r' => ?_
    obtain ⟨ws, e1, e2, e3⟩ := keysOf_rep r' ek
    have hp := (hd'.fra p _ upd_same)
    have nS : S' p = none := by
      cases z : S' p with
      | none => rfl
      | some c => have := (hd'.cel p c z).2.1; rw [upd_same] at this; cases this
    have ew : ws.length = ks.length := by rw [e3.len, e2]
    have em : mergeK [] (ks.zip ws) = ks.zip ws := by
      rw [merge_nodup (by rw [List.nil_append, List.map_fst_zip (by omega)]; exact nd), List.nil_append]
    refine ⟨hp.1, ks.zip ws, e1, by rw [List.length_zip]; omega, ?_⟩
    rw [em]
    have hd2 : Hd X.K L F (upd H' p (.dK (ks.zip ws))) (put S' p (.dic ks (ps.map (·.2)))) I' := by
      have h0 := (hd'.refr (o := .dK (ks.zip ws)))
      refine ⟨h0.sub, h0.lck, fun a c z => ?_, fun b o z => ?_⟩
      · by_cases ha : a = p
        · subst ha
          rw [put_same] at z
          cases z
          exact ⟨hp.2, hd.freeF np, _, upd_same, ws, rfl, e2, e3⟩
        · rw [put_ne ha] at z
          obtain ⟨y1, y2, y3⟩ := h0.cel a c z
          exact ⟨y1, by rw [upd_ne ha] at y2; exact y2, y3⟩
      · have nb : b ≠ p := fun y => by subst y; rw [hd.freeF np] at z; cases z
        exact h0.fra b o (by rw [upd_ne nb]; exact z)
    exact q' p nS _ _ I' hd2 s' rfl, fun ρ S Q Q' X X' hQ hX h' => mono_pairs h.mono _ _ _ _ _ _ (fun ps S2 ⟨ks, a, b, c, q⟩ => ⟨ks, a, b, c, fun p np => hQ _ _ (q p np)⟩) hX h'⟩
theorem pp_cons {pos : Pos} {ke ve : Expr} {ks : List (Option Expr)} {vs : List Expr} {a b : UE} {r : List (UE × UE)} (ha : TPE X W ke a) (hb : TPE X W ve b) (hr : TPPs X W pos ks vs r)
    (hp : PE X ke (lE X.K W a) → PE X ve (lE X.K W b) → PPs X pos ks vs (r.map fun ab => (lE X.K W ab.1, lE X.K W ab.2)) → PPs X pos (some ke :: ks) (ve :: vs) (((a, b) :: r).map fun ab => (lE X.K W ab.1, lE X.K W ab.2))) : TPPs X W pos (some ke :: ks) (ve :: vs) ((a, b) :: r) := ⟨hp ha.pe hb.pe hr.pe, .cons ha.mono hb.mono hr.mono⟩
/-! ### lists of truths -/
def blsOf : List Tr → Option (List Bool)
  | [] => some []
  | .bl b :: r => (blsOf r).map (b :: ·)
  | _ => none
def gAll (f : List Bool → Bool) (xs : List Tr) (z : Tr) : Prop := match xs with
  | [.lst ys] => ∃ bs, blsOf ys = some bs ∧ z = .bl (f bs)
  | _ => False
theorem blsOf_rep {I : Hp} : ∀ {ys : List Tr} {vs : List V} {bs : List Bool}, RepL K I ys vs → blsOf ys = some bs → vs = bs.map V.bl
  | [], vs, bs, r, e => by cases r; cases e; rfl
  | y :: ys, vs, bs, r, e => by
    obtain ⟨v, ws, rfl, r1, r2⟩ := r
    cases y with
    | bl b =>
      obtain ⟨cs, e1, rfl⟩ := Option.map_eq_some_iff.mp (show (blsOf ys).map (b :: ·) = some bs from e)
      cases r1
      rw [blsOf_rep r2 e1]; rfl
    | _ => cases e
theorem c_allf {f : List Bool → Bool} : CallT K (fun vs H Q => ∃ (a : Addr) (bs : List Bool), vs = [V.ref a] ∧ SqL K H a (bs.map V.bl) ∧ Q (.bl (f bs)) H) (gAll f) := by
  intro L F H S I xs z vs R hd r hg k
  unfold gAll at hg
  split at hg
  · rename_i ys e0
    obtain ⟨x, rfl, e⟩ := map1 e0
    obtain ⟨v, rfl, r1⟩ := RepL.one r
    obtain ⟨bs, eb, rfl⟩ := hg
    obtain ⟨a, us, rfl, h1, h2⟩ := vw_lst hd r1 e
    cases blsOf_rep h2 eb
    exact ⟨a, bs, rfl, .inl (.inl h1), k _ H I hd (Same.refl _) rfl⟩
  · exact hg.elim
theorem c_any : CallT K (rAny K) (gAll fun bs => bs.any id) := c_allf
theorem c_all : CallT K (rAll K) (gAll fun bs => bs.all id) := c_allf
def tUp (t : TE) : TE := fun σ H Q => ∃ Q0 : VK, (∀ v H, Q0 v H → Q v H) ∧ t σ H Q0
theorem pe_up {e : Expr} {t : TE} (h : PE X e t) : PE X e (tUp t) := ⟨fun pins s σ H Q I ⟨Q0, w, q⟩ => thn (h.run pins s σ H Q0 I q) fun u s1 ⟨x, H1, I1, r, z⟩ => ⟨x, H1, I1, r, w _ _ z⟩⟩
theorem pi_keysK {tg e : Expr} {td : TE} (he : PE X e td) : PI X tg e (DK.walk .keys td) := wkI (pi_keys (pe_up he)) fun σ H R h => ⟨_, fun v H ⟨d, o, kvs, e, h1, q⟩ => ⟨d, o, e, .inl ⟨kvs, h1, q⟩⟩, h⟩
/-- name = [.. for .. in a dict ..] -/
theorem s_setLcD {i : Nat} {y : Str} {py : Pos} {elt tg iter : Expr} {ifs : List Expr} {scope : Scope} {own : List (Str × Nat)} {pos spos : Pos} {tt : UT} {te : UE} {td : TE} {src : Rho → Sto → List Key → List Tr → Prop} {e : Expr} (w : DK) (p : Pat) (hc : X.calm = true) (hN : X.N.Nodup) (hy : X.N[i]? = some y) (hyl : X.env.scope.names.lookup y = some .local)
    (hsw : swapsWith (.ListComp elt [⟨tg, iter, ifs, 0⟩] scope pos) (some (.Name y py)) spos.line X.env = pure true) (hsrc : DSrc X e td src) (hi : PI X tg iter (w.walk td)) (ok : BlkOk X.N X.env.scope scope own) (hv : ∀ i ∈ p.slots, i ∈ own.map (·.2))
    (hg : ∀ (s : Shared) (H : Hp) (C : Addr) (cl : List (Str × Addr)) (fp : List Addr), PG (X.blk s H scope (compEnvC scope cl C X.env) fp) tg (gPat X.K p)) (ht : ∀ (s : Shared) (H : Hp) (C : Addr) (cl : List (Str × Addr)) (fp : List Addr), TPTs (X.blk s H scope (compEnvC scope cl C X.env) fp) ifs tt)
    (he : ∀ (s : Shared) (H : Hp) (C : Addr) (cl : List (Str × Addr)) (fp : List Addr), TPE (X.blk s H scope (compEnvC scope cl C X.env) fp) W0 elt te) (hs : ∀ x, foldedSetIterable iter X.env x = pure x := by intro _; rfl) :
    TPS X W (.Assign [.Name y py] (.ListComp elt [⟨tg, iter, ifs, 0⟩] scope pos) spos) (uSet i (uLcD w src p tt te (own.map (·.2)))) :=
  have mt := (ht X.s_0 X.H_0 0 [] []).mono
  have me := (he X.s_0 X.H_0 0 [] []).mono
  have ml : MonoE (uLcD w src p tt te (own.map (·.2))) := fun ρ S Q Q' X' X'' hQ hX ⟨ks, xs, hs, h⟩ => ⟨ks, xs, hs, mono_lcL mt me hQ _ _ _ h⟩
  ⟨wkS (ps_lockX (ps_setLc hc hN hy hyl hsw hi ok hg (fun s H C cl fp => (ht s H C cl fp).pe) (fun s H C cl fp => (he s H C cl fp).pe) hs)) fun D σ H z => by
    rcases lLcD w p hsrc mt me hv σ H _ (lSet ml D σ H z) with h | ⟨d, u, h1, h2, h3⟩
    · exact .inl h
    · exact .inr ⟨d, u, h1, h2, fun od _ => h3 od⟩, mono_set ml⟩
/-! ### levels -/
theorem CalleeT.lift {P : Program} {w : World} {mg : Str → Option Value} {base : Heap} {j k : Nat} {x : Str} {ps : List Str} {t : TSp} (C : CalleeT P w K mg base j x ps t) (h : j ≤ k) : CalleeT P w K mg base k x ps t := by
  obtain ⟨⟨f, fd, g, kp, b, F, lk⟩, m⟩ := C
  exact ⟨⟨f, fd, g, kp, b, F.mono h, lk⟩, m⟩
theorem MthT.lift {P : Program} {w : World} {mg : Str → Option Value} {base : Heap} {j k : Nat} {C : Addr} {x : Str} {t : TSp} (M : MthT P w K mg base j C x t) (h : j ≤ k) : MthT P w K mg base k C x t := by
  obtain ⟨⟨f, fd, ps, a, b, F⟩, c, m⟩ := M
  exact ⟨⟨f, fd, ps, a, b, F.mono h⟩, c, m⟩
theorem NewT.lift {P : Program} {w : World} {mg : Str → Option Value} {base : Heap} {j k : Nat} {C : Addr} {x : Str} {t : TSp} (N : NewT P w K mg base j x C t) (h : j ≤ k) : NewT P w K mg base k x C t := by
  obtain ⟨⟨f, fd, ps, dts, tI, ds, dvs, a, b, c, d, e, F, r⟩, m⟩ := N
  exact ⟨⟨f, fd, ps, dts, tI, ds, dvs, a, b, c, d, e, F.mono h, r⟩, m⟩
end
end KQ
namespace KQ
open PySem PySem.Spec PyProof.Rows L2 TL KB
/-! ### the rules that speak of the frame's part, with that part named -/
section
variable {X : Cx} {W : WX} {K : PySem.W.Frag} {e o : Expr} {te to : UE} {f : Str} {pos p' : Pos}
theorem e_fldK (hk : X.K = K) (he : TPE X W e te) (hb : attributeBase e f X.env (eval e X.env) = eval e X.env) : TPE X W (.Attribute e f pos) (uFld K f te) := by
  subst hk; exact e_fld he hb
theorem s_fldK (hk : X.K = K) (ho : TPE X W o to) (he : TPE X W e te) (hs : swapsWith e (some (.Attribute o f p')) pos.line X.env = pure false) : TPS X W (.Assign [.Attribute o f p'] e pos) (uSFld K f to te) := by
  subst hk; exact s_fld ho he hs
theorem d_fldK {i : Nat} (hk : X.K = K) (h : PE X (.Attribute e f pos) (tFld X.K (tVar i) f)) : DSrc X (.Attribute e f pos) (tFld X.K (tVar i) f) (srcF K i f) := by
  subst hk; exact d_fld i h
theorem s_fldaugK {op : Operator} {g : Int → Int → Int} (hk : X.K = K) (ho : TPE X W o to) (he : TPE X W e te) (hb : PE X o (lE X.K W to) → PE X e (lE X.K W te) → PS X (.AugAssign (.Attribute o f p') op e pos) (sFldAug X.K (lE X.K W to) (lE X.K W te) (fun x y H Q => ∃ i j, x = .int i ∧ y = .int j ∧ Q (.int (g i j)) H) f)) :
    TPS X W (.AugAssign (.Attribute o f p') op e pos) (uFldAug K f g to te) := by
  subst hk; exact s_fldaug ho he hb
theorem e_isi2K {c d : Expr} {v1 v2 : V} {u w : Value} {x1 : Nat} {p pt : Pos} (hk : X.K = K) (hg : Gl X "isinstance") (hm : X.mg "isinstance" = none) (he : TPE X W e te) (hc : PE X c (tC v1)) (h1 : ClsV v1 u) (hd : PE X d (tC v2)) (h2 : ClsV v2 w)
    (s1 : starEach (c :: [d]) X.env = (false, eval c X.env) :: starEach [d] X.env := by rfl) (s2 : starEach [d] X.env = (false, eval d X.env) :: starEach [] X.env := by rfl)
    (s3 : starEach (e :: [.Tuple [c, d] x1 pt]) X.env = (false, eval e X.env) :: starEach [.Tuple [c, d] x1 pt] X.env := by rfl) (s4 : starEach [.Tuple [c, d] x1 pt] X.env = (false, eval (.Tuple [c, d] x1 pt) X.env) :: starEach [] X.env := by rfl)
    (hpl : (backTo pos (starEach [.Tuple [c, d] x1 pt] X.env)).any (·.1) = false := by rfl) : TPE X W (.Call (.Name "isinstance" p) [e, .Tuple [c, d] x1 pt] [] pos) (uIsi2 K u w te) := by
  subst hk; exact e_isi2 hg hm he hc h1 hd h2 s1 s2 s3 s4 hpl
/-- isinstance(x, c), c a class of the program -/
def uIsi1 (K : PySem.W.Frag) (u : Value) (te : UE) : UE := fun ρ S Q X => te ρ S (fun x S1 => ∃ t b, tyT K (vw S1 x) t ∧ PySem.W.kitOne K t u = some b ∧ Q (.bl b) S1) X
theorem e_isi1K {c : Expr} {v1 : V} {u : Value} {p : Pos} (hk : X.K = K) (hg : Gl X "isinstance") (hm : X.mg "isinstance" = none) (he : TPE X W e te) (hc : PE X c (tC v1)) (h1 : ClsV v1 u)
    (s3 : starEach (e :: [c]) X.env = (false, eval e X.env) :: starEach [c] X.env := by rfl) (s4 : starEach [c] X.env = (false, eval c X.env) :: starEach [] X.env := by rfl)
    (hpl : (backTo pos (starEach [c] X.env)).any (·.1) = false := by rfl) : TPE X W (.Call (.Name "isinstance" p) [e, c] [] pos) (uIsi1 K u te) := by
  subst hk
  exact ⟨wkE (pe_callB call_isi hg hm boot_isinstance (pa_cons he.pe (pa_cons hc pa_nil s4) s3) (he := s3) (hpl := hpl)) fun σ H R ⟨L, F, S, I, ρ, hd, sl, h⟩ =>
    lE_then he.mono hd sl h (fun _ _ _ _ h => h) fun x S1 v H1 I1 ⟨t, b, h3, h4, q⟩ hd1 s1 sl1 r => ⟨v, v1, t, u, b, rfl, h1, tyT_ty hd1 r h3, h4, q _ _ _ hd1 s1 rfl⟩,
    fun ρ S Q Q' X X' hQ hX h => he.mono _ _ _ _ _ _ (fun x S1 ⟨t, b, h3, h4, q⟩ => ⟨t, b, h3, h4, hQ _ _ q⟩) hX h⟩
end
/-! ### operators of a class's own -/
/-- x op y, both of one class -/
def uOBin (ms : Addr → TSp → Prop) (ta tb : UE) : UE := fun ρ S Q X => ta ρ S (fun x S1 => tb ρ S1 (fun y S2 => ∃ C fs xs gs zs t, vw S2 x = .ins C fs xs ∧ vw S2 y = .ins C gs zs ∧ ms C t ∧ t [x, y] S2 Q X) X) X
/-- x[y], x of a class with a __getitem__ -/
def uOIx (ms : Addr → TSp → Prop) (ta tb : UE) : UE := fun ρ S Q X => ta ρ S (fun x S1 => tb ρ S1 (fun y S2 => ∃ C fs xs t, vw S2 x = .ins C fs xs ∧ ms C t ∧ t [x, y] S2 Q X) X) X
section
variable {X : Cx} {W : WX} {k : Nat} {ms : Addr → TSp → Prop} {a b : Expr} {ta tb : UE} {pos : Pos}
theorem e_obin {op : Operator} (hM : ∀ C t, ms C t → MthT X.prog X.w X.K X.mg X.base k C (PySem.dunder op.info.2) t) (hf : ∀ C t, ms C t → PySem.W.selfFirst X.K C = true) (hr : Room k X.A) (tk : Takes X W) (ha : TPE X W a ta) (hb : TPE X W b tb) : TPE X W (.BinOp a op b pos) (uOBin ms ta tb) := by
  refine ⟨⟨fun pins s σ H Q I h => ?_⟩, fun ρ S Q Q' X X' hQ hX h => ha.mono _ _ _ _ _ _ (fun x S1 q => hb.mono _ _ _ _ _ _ (fun y S2 ⟨C, fs, xs, gs, zs, t, e1, e2, c, q⟩ => ⟨C, fs, xs, gs, zs, t, e1, e2, c, (hM C t c).mono _ _ _ _ _ _ hQ hX q⟩) hX q) hX h⟩
  obtain ⟨L, F, S, I0, ρ, hd, sl, h⟩ := h
  have step : lE X.K W ta σ H (fun x H1 => lE X.K W tb σ H1 (fun y H2 => ∃ p q C dx dy fs gs t, x = .ref p ∧ y = .ref q ∧ H2 p = some (.ins C dx fs) ∧ H2 q = some (.ins C dy gs) ∧ ms C t ∧ lSp X.K t [.ref p, .ref q] H2 Q (WE W σ))) :=
    lE_then ha.mono hd sl h (fun _ _ _ _ h => h) fun x S1 v H1 I1 q hd1 s1 sl1 r =>
      lE_then hb.mono hd1 sl1 q (dnX_up s1) fun y S2 u H2 I2 ⟨C, fs, xs, gs, zs, t, e1, e2, c, q⟩ hd2 s2 sl2 ry => by
        obtain ⟨p, dx, vs, rfl, h1, hl, h2⟩ := vw_ins hd2 (r.mono s2) e1
        obtain ⟨p2, dy, us, rfl, h3, hl2, h4⟩ := vw_ins hd2 ry e2
        exact ⟨p, p2, C, dx, dy, _, _, t, rfl, rfl, h1, h3, c, L, F, S2, I2, [x, y], hd2, .cons (r.mono s2) (.cons ry rfl), (hM C t c).mono _ _ _ _ _ _ (dnV_up (s1.trans s2)) (dnX_up (s1.trans s2)) q⟩
  refine wpAny_BinOp (binT ha.pe hb.pe I step fun v u s2 x y H2 I2 rx ry ⟨p, q, C, dx, dy, fs, gs, t, ex, ey, h1, h3, c, w⟩ => ?_)
  subst ex ey
  cases rx
  cases ry
  obtain ⟨⟨f, fd, ps, M, bd, Fn⟩, cl, _⟩ := hM C t c
  obtain ⟨mA, J, _⟩ := ins_get I2.hok h1
  obtain ⟨mB, J', _⟩ := ins_get I2.hok h3
  obtain ⟨od, J, _⟩ := J.look
  obtain ⟨od', J', _⟩ := J'.look
  obtain ⟨m, hF⟩ := I2.fr
  refine PySem.W.binop_K hF I2.ok.mod.kin J J'.type (hf C t c) M.at_ M.fn ?_
  refine wpAny_mono (run_fnS (us := [.ref p, .ref q]) (vs := [.ref p, .ref q]) (E := WE W) Fn hr bd (passAt tk σ) I2 (.cons rfl (.cons rfl .nil)) w) (fun w s' z => ?_) fun _ _ x => x
  obtain ⟨z', H', I', rz, qz⟩ := z
  exact SlX.cmpback rz ⟨z', H', I', rz, qz⟩
end
section
variable {X : Cx} {W : WX} {k : Nat} {ms : Addr → TSp → Prop} {a b : Expr} {ta tb : UE} {pos : Pos}
theorem e_oix (hM : ∀ C t, ms C t → MthT X.prog X.w X.K X.mg X.base k C "__getitem__" t) (hf : ∀ C t, ms C t → ∀ f, PySem.W.findIn X.K (.ref C) "__getitem__" = some (some (.ref f)) → PySem.W.fnIn X.K f = true) (hr : Room (k + 1) X.A) (tk : Takes X W) (ha : TPE X W a ta) (hb : TPE X W b tb)
    (hsl : ∀ (x : Addr) (i : Value), subscripted b true (.ref x) i = runValue (.builtin "lifetime.subscript" ⟨[.ref x, i], []⟩) := by intro _ _; with_unfolding_all rfl) : TPE X W (.Subscript a b pos) (uOIx ms ta tb) := by
  refine ⟨⟨fun pins s σ H Q I h => ?_⟩, fun ρ S Q Q' X X' hQ hX h => ha.mono _ _ _ _ _ _ (fun x S1 q => hb.mono _ _ _ _ _ _ (fun y S2 ⟨C, fs, xs, t, e1, c, q⟩ => ⟨C, fs, xs, t, e1, c, (hM C t c).mono _ _ _ _ _ _ hQ hX q⟩) hX q) hX h⟩
  obtain ⟨L, F, S, I0, ρ, hd, sl, h⟩ := h
  have step : lE X.K W ta σ H (fun x H1 => lE X.K W tb σ H1 (fun y H2 => ∃ p C dx fs t, x = .ref p ∧ H2 p = some (.ins C dx fs) ∧ ms C t ∧ lSp X.K t [.ref p, y] H2 Q (WE W σ))) :=
    lE_then ha.mono hd sl h (fun _ _ _ _ h => h) fun x S1 v H1 I1 q hd1 s1 sl1 r =>
      lE_then hb.mono hd1 sl1 q (dnX_up s1) fun y S2 u H2 I2 ⟨C, fs, xs, t, e1, c, q⟩ hd2 s2 sl2 ry => by
        obtain ⟨p, dx, vs, rfl, h1, hl, h2⟩ := vw_ins hd2 (r.mono s2) e1
        exact ⟨p, C, dx, _, t, rfl, h1, c, L, F, S2, I2, [x, y], hd2, .cons (r.mono s2) (.cons ry rfl), (hM C t c).mono _ _ _ _ _ _ (dnV_up (s1.trans s2)) (dnX_up (s1.trans s2)) q⟩
  refine Subscript_ (binT ha.pe hb.pe I step fun v u s2 x y H2 I2 rx ry ⟨p, C, dx, fs, t, ex, h1, c, w⟩ => ?_)
  subst ex
  cases rx
  obtain ⟨⟨f, fd, ps, M, bd, Fn⟩, cl, _⟩ := hM C t c
  obtain ⟨mA, J, _⟩ := ins_get I2.hok h1
  obtain ⟨od, J, _⟩ := J.look
  obtain ⟨m, hF⟩ := I2.fr
  have hlen : [Value.ref p, u].length = ps.length := Fn.len _ _ _ _ w
  refine PySem.W.sub_K hF I2.ok.mod.kin J M.at_ (hf C t c f M.at_) M.fn (wpAny_call (codeAny_mono (Fn.run X.A.in1 X.stack s2 H2 ⟨[.ref p, u], []⟩ [.ref p, u] [.ref p, y] Q (WE W σ) hr.in1 I2.env0.in1 ?_ (.cons rfl (.cons ry .nil)) w) fun r s' hq => ?_)) (hsl p u)
  · have := bd s2 [.ref p, u] I2.kIn (by simpa using hlen)
    simpa using this
  · cases r with
    | error e => exact passAt tk σ pins H2 s2 e s' I2 hq
    | ok fl =>
      cases fl with
      | ret v => exact I2.after hq
      | next => exact hq.elim
      | brk => exact hq.elim
      | cont => exact hq.elim
end
/-- x in y, x not in y (n), y of a class with a __contains__ that answers True or False -/
def uOIn (n : Bool) (ms : Addr → TSp → Prop) (ta tb : UE) : UE := fun ρ S Q X => ta ρ S (fun x S1 => tb ρ S1 (fun y S2 => ∃ C fs xs t, vw S2 y = .ins C fs xs ∧ ms C t ∧ t [y, x] S2 (fun z S3 => ∃ b, z = .bl b ∧ Q (.bl (n ^^ b)) S3) X) X) X
section
variable {X : Cx} {W : WX} {k : Nat} {ms : Addr → TSp → Prop} {a b : Expr} {ta tb : UE} {pos : Pos}
theorem mono_oin {n : Bool} (hM : ∀ C t, ms C t → MonoSp t) (ma : MonoE ta) (mb : MonoE tb) : MonoE (uOIn n ms ta tb) := fun ρ S Q Q' X X' hQ hX h => ma _ _ _ _ _ _ (fun x S1 q => mb _ _ _ _ _ _ (fun y S2 ⟨C, fs, xs, t, e1, c, q⟩ => ⟨C, fs, xs, t, e1, c, hM C t c _ _ _ _ _ _ (fun z S3 ⟨b, e, q⟩ => ⟨b, e, hQ _ _ q⟩) hX q⟩) hX q) hX h
theorem pc_oin {n : Bool} (hM : ∀ C t, ms C t → MthT X.prog X.w X.K X.mg X.base k C "__contains__" t) (hr : Room k X.A) (tk : Takes X W) (ha : TPE X W a ta) (hb : TPE X W b tb) : PC X (if n then .NotIn else .In) a b (lE X.K W (uOIn n ms ta tb)) := by
  refine ⟨fun pins s σ H Q I h => ?_⟩
  obtain ⟨L, F, S, I0, ρ, hd, sl, h⟩ := h
  have step : lE X.K W ta σ H (fun x H1 => lE X.K W tb σ H1 (fun y H2 => ∃ p C dx fs t, y = .ref p ∧ H2 p = some (.ins C dx fs) ∧ ms C t ∧ lSp X.K t [.ref p, x] H2 (fun v H3 => ∃ c, v = .bl c ∧ Q (.bl (n ^^ c)) H3) (WE W σ))) :=
    lE_then ha.mono hd sl h (fun _ _ _ _ h => h) fun x S1 v H1 I1 q hd1 s1 sl1 r =>
      lE_then hb.mono hd1 sl1 q (dnX_up s1) fun y S2 u H2 I2 ⟨C, fs, xs, t, e1, c, q⟩ hd2 s2 sl2 ry => by
        obtain ⟨p, dx, vs, rfl, h1, hl, h2⟩ := vw_ins hd2 ry e1
        exact ⟨p, C, dx, _, t, rfl, h1, c, L, F, S2, I2, [y, x], hd2, .cons ry (.cons (r.mono s2) rfl), (hM C t c).mono _ _ _ _ _ _ (fun z S3 ⟨b, e, q⟩ v3 H3 I3 hd3 s3 r3 => by subst e; cases r3; exact ⟨b, rfl, q _ H3 I3 hd3 ((s1.trans s2).trans s3) rfl⟩) (dnX_up (s1.trans s2)) q⟩
  refine binT ha.pe hb.pe I step fun v u s2 x y H2 I2 rx ry ⟨p, C, dx, fs, t, ey, h1, c, w⟩ => ?_
  subst ey
  cases ry
  obtain ⟨⟨f, fd, ps, M, bd, Fn⟩, cl, _⟩ := hM C t c
  obtain ⟨mA, J, _⟩ := ins_get I2.hok h1
  obtain ⟨od, J, _⟩ := J.look
  obtain ⟨m, hF⟩ := I2.fr
  have run := run_fnS (us := [.ref p, v]) (vs := [.ref p, x]) (E := WE W) Fn hr bd (passAt tk σ) I2 (.cons rfl (.cons rx .nil)) w
  cases n with
  | false =>
    refine PySem.W.in_K hF I2.ok.mod.kin J M.at_ M.fn (wpAny_mono run (fun r s' ⟨z, H3, I3, rz, d, ez, q⟩ => ?_) fun _ _ x => x)
    subst ez
    cases rz
    exact wpAny_truthy_bool ⟨.bl (false ^^ d), H3, I3, by rw [Bool.false_xor]; rfl, q⟩
  | true =>
    refine PySem.W.notIn_K hF I2.ok.mod.kin J M.at_ M.fn (wpAny_mono run (fun r s' ⟨z, H3, I3, rz, d, ez, q⟩ => ?_) fun _ _ x => x)
    subst ez
    cases rz
    exact wpAny_truthy_bool ⟨.bl (true ^^ d), H3, I3, by rw [Bool.true_xor]; rfl, q⟩
theorem e_oin {n : Bool} {op : CmpOp} (ho : op = if n then .NotIn else .In) (hM : ∀ C t, ms C t → MthT X.prog X.w X.K X.mg X.base k C "__contains__" t) (hr : Room k X.A) (tk : Takes X W) (ha : TPE X W a ta) (hb : TPE X W b tb) (hm : behindInMarks op b = false) : TPE X W (.Compare a [op] [b] pos) (uOIn n ms ta tb) := by
  subst ho
  exact ⟨pe_cmp (pc_oin hM hr tk ha hb) hm, mono_oin (fun C t c => (hM C t c).mono) ha.mono hb.mono⟩
theorem t_oin {n : Bool} {op : CmpOp} (ho : op = if n then .NotIn else .In) (hM : ∀ C t, ms C t → MthT X.prog X.w X.K X.mg X.base k C "__contains__" t) (hr : Room k X.A) (tk : Takes X W) (ha : TPE X W a ta) (hb : TPE X W b tb) (hm : behindInMarks op b = false) : TPT X W (.Compare a [op] [b] pos) (uB (uOIn n ms ta tb)) := by
  subst ho
  have mo : MonoE (uOIn n ms ta tb) := mono_oin (fun C t c => (hM C t c).mono) ha.mono hb.mono
  exact ⟨wkT (pt_cmp (pc_oin hM hr tk ha hb) hm) fun σ H R h => by
    obtain ⟨L', F', S', I', ρ', h1, h2, h3⟩ := lB (X := X) (W := W) mo σ H R h
    exact ⟨L', F', S', I', ρ', h1, h2, h3⟩, mono_b mo⟩
end
/-- len(x), x of a class with a __len__ -/
def uOLen (ms : Addr → TSp → Prop) (ta : UE) : UE := fun ρ S Q X => ta ρ S (fun x S1 => ∃ C fs xs t, vw S1 x = .ins C fs xs ∧ ms C t ∧ t [x] S1 (fun z S2 => ∃ n : Int, z = .int n ∧ 0 ≤ n ∧ n < 9223372036854775808 ∧ Q (.int n) S2) X) X
theorem e_olen {X : Cx} {W : WX} {k : Nat} {ms : Addr → TSp → Prop} {a : Expr} {ta : UE} {p pos : Pos} (hM : ∀ C t, ms C t → MthT X.prog X.w X.K X.mg X.base k C "__len__" t) (hr : Room (k + 1) X.A) (tk : Takes X W) (hg : Gl X "len") (hm : X.mg "len" = none) (ha : TPE X W a ta)
    (he : starEach [a] X.env = (false, eval a X.env) :: starEach [] X.env := by rfl) (hpl : (backTo pos (starEach [] X.env)).any (·.1) = false := by rfl) : TPE X W (.Call (.Name "len" p) [a] [] pos) (uOLen ms ta) := by
  refine ⟨⟨fun pins s σ H Q I h => ?_⟩, fun ρ S Q Q' X X' hQ hX h => ha.mono _ _ _ _ _ _ (fun x S1 ⟨C, fs, xs, t, e1, c, q⟩ => ⟨C, fs, xs, t, e1, c, (hM C t c).mono _ _ _ _ _ _ (fun z S2 ⟨n, e, n0, n1, q⟩ => ⟨n, e, n0, n1, hQ _ _ q⟩) hX q⟩) hX h⟩
  obtain ⟨L, F, S, I0, ρ, hd, sl, h⟩ := h
  have step : lE X.K W ta σ H (fun x H1 => (fun vs H1 => ∃ p C dx fs t, vs = [V.ref p] ∧ H1 p = some (.ins C dx fs) ∧ ms C t ∧ lSp X.K t [.ref p] H1 (fun v H3 => ∃ n : Int, v = .int n ∧ 0 ≤ n ∧ n < 9223372036854775808 ∧ Q (.int n) H3) (WE W σ)) [x] H1) :=
    lE_then ha.mono hd sl h (fun _ _ _ _ h => h) fun x S1 v H1 I1 ⟨C, fs, xs, t, e1, c, q⟩ hd1 s1 sl1 r => by
      obtain ⟨p, dx, vs, rfl, h1, hl, h2⟩ := vw_ins hd1 r e1
      exact ⟨p, C, dx, _, t, rfl, h1, c, L, F, S1, I1, [x], hd1, .cons r rfl, (hM C t c).mono _ _ _ _ _ _ (fun z S3 ⟨n, e, n0, n1, q⟩ v3 H3 I3 hd3 s3 r3 => by subst e; cases r3; exact ⟨n, rfl, n0, n1, q _ H3 I3 hd3 (s1.trans s3) rfl⟩) (dnX_up s1) q⟩
  refine wpAny_Call_Name_kw (ld_blt I hg hm boot_len ?_ (by decide) (by decide))
  refine PyProof.Rows.callWith_builtin1 (thn ((pa_cons ha.pe pa_nil he).run pos pins s σ H (fun vs H1 => ∃ p C dx fs t, vs = [V.ref p] ∧ H1 p = some (.ins C dx fs) ∧ ms C t ∧ lSp X.K t [.ref p] H1 (fun v H3 => ∃ n : Int, v = .int n ∧ 0 ≤ n ∧ n < 9223372036854775808 ∧ Q (.int n) H3) (WE W σ)) I step) fun us s1 ⟨vs, H1, I1, r1, p, C, dx, fs, t, ev, h1, c, w⟩ => ?_) he hpl
  subst ev
  obtain ⟨u, rfl, ru⟩ := r1.one
  cases ru
  obtain ⟨⟨f, fd, ps, M, bd, Fn⟩, cl, _⟩ := hM C t c
  obtain ⟨mA, J, _⟩ := ins_get I1.hok h1
  obtain ⟨od, J, _⟩ := J.look
  obtain ⟨m, hF⟩ := I1.fr
  have hlen : [Value.ref p].length = ps.length := Fn.len _ _ _ _ w
  refine PySem.W.len_K hF I1.ok.mod.kin J M.at_ M.fn (wpAny_call (codeAny_mono (Fn.run X.A.in1 X.stack s1 H1 ⟨[.ref p], []⟩ [.ref p] [.ref p] _ (WE W σ) hr.in1 I1.env0.in1 ?_ (.cons rfl .nil) w) fun r s' hq => ?_))
  · have := bd s1 [.ref p] I1.kIn (by simpa using hlen)
    simpa using this
  · cases r with
    | error e => exact passAt tk σ pins H1 s1 e s' I1 hq
    | ok fl =>
      cases fl with
      | ret v =>
        obtain ⟨z, H3, I3, rz, n, ez, n0, n1, q⟩ := I1.after hq
        subst ez
        obtain ⟨tt, rfl⟩ := rz
        exact ⟨⟨n0, n1⟩, .int n, H3, I3.tok _, ⟨_, rfl⟩, q⟩
      | next => exact hq.elim
      | brk => exact hq.elim
      | cont => exact hq.elim
/-- a class by its __init__ with one default, the default taken -/
theorem DefM.newT0 {P : Program} {w : World} {K : PySem.W.Frag} {mg : Str → Option Value} {base : Heap} {C : Addr} {x qual : Str} {st : Stmt} {dv : V} {dt : Tr} {N ps : List Str} {k : Nat} {tI t : TSp} {us : US} (D : DefM K C "__init__" qual st [dv]) (hdt : ∀ I, Rep K I dt dv) (hmk : PySem.W.makesIn K C = true) (hkp : PySem.W.keepIn K (.ref C) = true) (g : mg x = some (.ref C)) (S : FnScope N ps (defScope st)) (hp : 0 < ps.length)
    (hb : ∀ (T : Addr) (kV doc pm : Value) (an : Option Addr) (cdv ct : Value) (us its : List Value), us.length = ps.length - 1 → its.length = 1 →
      ∃ k, bindArgs (PySem.W.fnOf "__init__" qual (defArgs st) (defBody st) (defScope st) (.ref T) kV doc pm an cdv ct) ⟨us, []⟩ = seqItems? (.ref T) >>= k ∧ k (some its.toArray) = pure (ps.zip (us ++ its.drop 0)))
    (len : ∀ xs S Q X, tI xs S Q X → xs.length = ps.length) (mI : MonoSp tI) (mono : MonoSp t) (body : BodyT P w K mg base k qual st N us)
    (h : ∀ xs S Q X, Closed Q → ClosedX X → tI xs S Q X → us (endU Q) (endX X) (startT N xs) S)
    (hw : ∀ xs S Q X, Closed Q → ClosedX X → t xs S Q X → ∀ a, S a = none → tI (.ref a :: (xs ++ [dt])) (put S a (.ins C [] [])) (fun v S2 => v = .non ∧ Q (.ref a) S2) X) : NewT P w K mg base (k + 1) x C t := by
  obtain ⟨f, fd, F, h1, h2⟩ := D.ex
  obtain ⟨ds, v, b⟩ := F.binds1 (ps := ps) (ps.length - 1) 0 (by simp) (by show ps.length - 1 + (1 - 0) = ps.length; omega) (fun T kV doc pm an cdv ct us its h3 h4 => hb T kV doc pm an cdv ct us its h3 h4)
  exact ⟨⟨f, fd, ps, [dt], tI, ds, [dv], ⟨hmk, h1, h2, hkp⟩, g, b, v, fun I => ⟨dv, [], rfl, hdt I, rfl⟩, fnD_ok F S len body h, mI, hw⟩, mono⟩
theorem nil_tup {K : PySem.W.Frag} {a : Addr} {d : Option Addr} {n : Nat} {sl : Array (Option Value)} (h : K.lookup a = some ⟨.type "tuple", d, .seq #[] n, sl⟩) (I : Hp) : Rep K I (.tup []) (.ref a) := ⟨a, [], rfl, .inr ⟨_, #[], n, h, rfl, rfl, by show 0 ≤ sizeLine; decide, .nil⟩, rfl⟩
end KQ
namespace KQ
open PySem PySem.Spec PyProof.Rows L2 TL KB
/-! ### try with clauses that have a name or none -/
abbrev Sut := Addr → Value → Option Addr → TS
/-- the ends of a suite whose name is gone behind it -/
def clr (i : Nat) (D : L2.Ends) : L2.Ends := ⟨fun τ G => D.nx (τ.set i none) G, D.rt, fun τ G => D.bk (τ.set i none) G, fun τ G => D.ct (τ.set i none) G⟩
def wMix (K : PySem.W.Frag) (Wo : WX) (D : L2.Ends) : List (Value × Option Nat × Sut) → WX
  | [] => Wo
  | (c, none, u) :: r => fun k d τ G => ∃ y, PySem.W.exmOne K k c = some y ∧ (y = true → ∀ e, G e = none → u e k d D τ G) ∧ (y = false → wMix K Wo D r k d τ G)
  | (c, some i, u) :: r => fun k d τ G => ∃ y, PySem.W.exmOne K k c = some y ∧ (y = true → ∀ e, G e = none → u e k d (clr i D) (τ.set i (some (.ref e))) G) ∧ (y = false → wMix K Wo D r k d τ G)
inductive HdM (X : Cx) : List ExceptHandler → List (Value × Option Nat × Sut) → Prop
  | nil : HdM X [] []
  | only {x : Str} {c : Value} {u : Sut} {b : Stmt} {bs : List Stmt} {p1 p2 : Pos} {hs : List ExceptHandler} {l : List (Value × Option Nat × Sut)} (nm : Names X x c)
      (su : ∀ (e : Addr) (o : Obj) (k : Value) (d : Option Addr) (pn : List (Addr × Obj)), Zc k d o → (∃ fs, o.data = .fields fs) → PSs (X.suite e ((e, o) :: pn)) (b :: bs) (u e k d)) (r : HdM X hs l) :
      HdM X (.ExceptHandler (some (.Name x p1)) none (b :: bs) p2 :: hs) ((c, none, u) :: l)
  | named {x n : Str} {i : Nat} {c : Value} {u : Sut} {b : Stmt} {bs : List Stmt} {p1 p2 : Pos} {hs : List ExceptHandler} {l : List (Value × Option Nat × Sut)} (nd : X.N.Nodup) (at_ : X.N[i]? = some n) (lc : X.env.kindOf n = some .local) (nm : Names X x c)
      (su : ∀ (e : Addr) (o : Obj) (k : Value) (d : Option Addr) (pn : List (Addr × Obj)), Zc k d o → (∃ fs, o.data = .fields fs) → PSs (X.suite e ((e, o) :: pn)) (b :: bs) (u e k d)) (r : HdM X hs l) :
      HdM X (.ExceptHandler (some (.Name x p1)) (some n) (b :: bs) p2 :: hs) ((c, some i, u) :: l)
theorem ps_try_mix {X : Cx} {body : List Stmt} {g : ExceptHandler} {gs : List ExceptHandler} {l : List (Value × Option Nat × Sut)} {pos : Pos} {tb : WX → TS} {Wo : WX} (st : X.stack = X.env :: X.outer) (fr : X.env.frame = some X.env.locals) (tk : L2.Takes X Wo)
    (bd : ∀ (W : WX) (pn : List (Addr × Obj)) (xe : Value → Shared → Prop), L2.Takes (X.tr pn xe) W → PassesOwn (model X.prog X.w) X.A X.env xe → PSs (X.tr pn xe) body (tb W))
    (hd : HdM X (g :: gs) l) : PS X (.Try body (g :: gs) [] [] pos) (fun D σ H => tb (wMix X.K Wo D l) D σ H) := by
  refine ⟨fun pins s σ H D I h => ?_⟩
  have F0 : X.A.frames = some (X.env :: X.outer) := by rw [I.ok.frames, st]
  refine wpAny_Try_except (wpAny_mono ((bd (wMix X.K Wo D l) (X.pn ++ pins) (fun v t1 => wpAny (model X.prog X.w) X.A (noteFrame v X.env) (fun _ t2 => wpAny (model X.prog X.w) X.A (setFlight v none) (fun _ t3 =>
    wpAny (model X.prog X.w) X.A (handleBy v X.env (g :: gs)) (SP X pins D) X.xe t3) X.xe t2) X.xe t1) (fun v t xx => ?_) PassesOwn.looking).run [] s σ H D (I.toTry _) h) (fun f t z => ?_) (fun _ _ z => z))
  · obtain ⟨e, B, t0, pins0, τ, G, k, d, rfl, R0, nb, up, sky, ne, os, ag, w⟩ := xx
    have R : Inv X pins τ G t0 := R0.ofTry I.ok
    rw [st] at sky
    show wpAny (model X.prog X.w) X.A (noteFrame (.ref e) X.env) _ _ _
    refine Sky.land Zc.steady F0 fr sky fun h1 fl up1 => ?_
    have R1 : Inv X pins τ G { t with heap := h1 } := R.landed nb fl.1 (up.trans up1) os ag
    obtain ⟨o1, fs1, g1, z1, d1⟩ := fl.there
    have off : e ∉ frs (X.env :: X.outer) := fun hm => by
      obtain ⟨_, o2, e2, nf⟩ := fl.2.2.1.mem hm
      rw [g1] at e2
      cases e2
      exact nf _ d1
    have offL : e ≠ X.env.locals := fun z => off (List.mem_filterMap.mpr ⟨X.env, List.mem_cons_self, by rw [fr, z]⟩)
    have offF : e ∉ X.fs := fun hm => by
      obtain ⟨v, hv, q⟩ := List.mem_filterMap.mp hm
      exact off (List.mem_filterMap.mpr ⟨v, List.mem_cons_of_mem _ hv, q⟩)
    have U1 := R1.suite g1 d1 ne offL offF
    have ty : PySem.W.Looks (model X.prog X.w) h1 (typeOf (.ref e)) k := fun A Q E t5 kk q => wpAny_typeOf_ref (kk _ _ g1) (by rw [z1.1]; exact q)
    have tst : ∀ {x : Str} {c : Value} {p1 : Pos} {Q : Value → Shared → Prop} {E : Value → Shared → Prop}, Names X x c → Q c { t with heap := h1 } → wpAny (model X.prog X.w) (X.A.mark (some (.ref e))) (eval (.Name x p1) X.env) Q E { t with heap := h1 } := fun {x c p1 Q E} nm q => by
      obtain ⟨y1, y2, y3 | ⟨y3, y4, y5⟩⟩ := nm
      · exact ld_glob (X := X.suite e ((e, o1) :: (X.pn ++ pins))) U1 y1 y3 q y2
      · exact ld_blt (X := X.suite e ((e, o1) :: (X.pn ++ pins))) U1 y1 y3 y4 q y5 y2
    have go : ∀ {gs2 : List ExceptHandler} {l2 : List (Value × Option Nat × Sut)}, HdM X gs2 l2 → wMix X.K Wo D l2 k d τ G → wpAny (model X.prog X.w) X.A (handleBy (.ref e) X.env gs2) (SP X pins D) X.xe { t with heap := h1 } := by
      intro gs2 l2 hk
      induction hk with
      | nil =>
        intro w2
        refine wpAny_handleBy_nil ?_
        obtain ⟨m1, m2, m3, o3, fs3, T, oT, tsT, g3, z3, d3, h3, r3⟩ := id fl
        unfold PySem.passOn
        refine wpAny_bind (wpAny_field g3 d3 h3 ?_)
        rw [if_neg (show ¬ ((Value.ref T == Value.none) = true) from by simp)]
        have out : wpAny (model X.prog X.w) X.A (setFlight (.ref e) X.env.frame) (fun _ t4 => wpAny (model X.prog X.w) X.A (throw (.ref e) : Sem Flow) (SP X pins D) X.xe t4) X.xe { t with heap := h1 } := by
          rw [fr]
          exact HandSPX.setFlight_upZ fl fun h2 hh2 up2 => wpAny_throw (tk _ _ ⟨e, B, t0, pins, τ, G, k, d, rfl, R, nb, (up.trans up1).trans up2, .inr (.inr (by rw [st]; exact hh2)), ne, os, ag, w2⟩)
        first
          | exact wpAny_bind (wpAny_pure (wpAny_bind out))
          | exact wpAny_bind out
      | @only x c u b bs p1 p2 hs2 l2 nm su r ih =>
        rintro ⟨y, hy, y1, y0⟩
        refine wpAny_handleBy_cons (codeAny_handlers_test ?_) (fun q => by cases q)
        refine tst nm ((PySem.W.exm_one (M := model X.prog X.w) R1.kIn ty hy).here ?_)
        cases y with
        | false => exact ih (y0 rfl)
        | true =>
          refine codeAny_handlers_suite (HandSPX.lands_againZ fl fun h2 fl2 up2 => ?_)
          have R2 : Inv X pins τ G { t with heap := h2 } := R.landed nb fl2.1 ((up.trans up1).trans up2) os ag
          obtain ⟨o2, fs2, g2, z2, d2⟩ := fl2.there
          refine wpAny_mono ((su e o2 k d (X.pn ++ pins) z2 ⟨_, d2⟩).run [] _ _ G _ (R2.suite g2 d2 ne offL offF) (y1 rfl e ne)) (fun f t6 q => ?_) (fun _ _ z => False.elim z)
          cases f with
          | ret v => exact let ⟨v6, τ6, G6, U6, r6, q6⟩ := q; ⟨v6, τ6, G6, U6.unsuite I.ok, r6, q6⟩
          | next => exact let ⟨τ6, G6, U6, q6⟩ := q; ⟨τ6, G6, U6.unsuite I.ok, q6⟩
          | brk => exact let ⟨τ6, G6, U6, q6⟩ := q; ⟨τ6, G6, U6.unsuite I.ok, q6⟩
          | cont => exact let ⟨τ6, G6, U6, q6⟩ := q; ⟨τ6, G6, U6.unsuite I.ok, q6⟩
      | @named x n i c u b bs p1 p2 hs2 l2 nd at_ lc nm su r ih =>
        rintro ⟨y, hy, y1, y0⟩
        refine wpAny_handleBy_cons (codeAny_handlers_test ?_) (fun q => by cases q)
        refine tst nm ((PySem.W.exm_one (M := model X.prog X.w) R1.kIn ty hy).here ?_)
        cases y with
        | false => exact ih (y0 rfl)
        | true =>
          refine codeAny_handlers_suite_as (HandSPX.lands_againZ fl fun h2 fl2 up2 => ?_)
          have R2 : Inv X pins τ G { t with heap := h2 } := R.landed nb fl2.1 ((up.trans up1).trans up2) os ag
          obtain ⟨o2, fs2, g2, z2, d2⟩ := fl2.there
          refine store_ok (X := X.suite e ((e, o2) :: (X.pn ++ pins))) (v := .ref e) (R2.suite g2 d2 ne offL offF) nd at_ (.inl lc) rfl (fun t5 U5 => ?_) (.inr lc)
          refine wpAny_mono ((su e o2 k d (X.pn ++ pins) z2 ⟨_, d2⟩).run [] t5 _ G _ U5 (y1 rfl e ne)) (fun f t6 q => ?_) (fun _ _ z => False.elim z)
          have nd6 : ∀ {τ6 : L2.St} {G6 : Hp} {P : Shared → Prop}, Inv (X.suite e ((e, o2) :: (X.pn ++ pins))) [] τ6 G6 t6 → (∀ t7, Inv X pins (τ6.set i none) G6 t7 → P t7) → wpAny (model X.prog X.w) X.A (do bindName X.env n .none; unbindBehindTheSuite X.env n p2) (fun _ t7 => P t7) X.xe t6 :=
            fun {τ6 G6 P} U6 hP => gone_ok (U6.unsuite I.ok) nd at_ lc hP
          cases f with
          | ret v => exact let ⟨v6, τ6, G6, U6, r6, q6⟩ := q; nd6 U6 fun t7 V7 => ⟨_, _, _, V7, r6, q6⟩
          | next => exact let ⟨τ6, G6, U6, q6⟩ := q; nd6 U6 fun t7 V7 => ⟨_, _, V7, q6⟩
          | brk => exact let ⟨τ6, G6, U6, q6⟩ := q; nd6 U6 fun t7 V7 => ⟨_, _, V7, q6⟩
          | cont => exact let ⟨τ6, G6, U6, q6⟩ := q; nd6 U6 fun t7 V7 => ⟨_, _, V7, q6⟩
    exact go hd w
  · cases f with
    | ret v => exact let ⟨v6, τ6, G6, V6, r6, q6⟩ := z; ⟨v6, τ6, G6, V6.ofTry I.ok, r6, q6⟩
    | next => exact let ⟨τ6, G6, V6, q6⟩ := z; wpAny_execs_nil ⟨τ6, G6, V6.ofTry I.ok, q6⟩
    | brk => exact let ⟨τ6, G6, V6, q6⟩ := z; ⟨τ6, G6, V6.ofTry I.ok, q6⟩
    | cont => exact let ⟨τ6, G6, V6, q6⟩ := z; ⟨τ6, G6, V6.ofTry I.ok, q6⟩
/-! ### the same over trees -/
def XS0 : XS := fun _ _ _ _ _ => False
/-- what a suite reads, by the exception, its dict, its class -/
abbrev SuU := Addr → Addr → Value → US
def clrU (i : Nat) (D : UEnds) : UEnds := { nx := fun ρ S => D.nx (ρ.set i none) S, rt := D.rt, bk := fun ρ S => D.bk (ρ.set i none) S, ct := fun ρ S => D.ct (ρ.set i none) S }
/-- what the clauses wish of an exception -/
def hX (K : PySem.W.Frag) (D : UEnds) (X : XS) : List (Value × Option Nat × SuU) → XS
  | [] => X
  | (c, none, u) :: r => fun k fs xs ρ S => ∃ y, PySem.W.exmOne K k c = some y ∧ (y = true → ∀ e d, u e d k D XS0 ρ S) ∧ (y = false → hX K D X r k fs xs ρ S)
  | (c, some i, u) :: r => fun k fs xs ρ S => ∃ y, PySem.W.exmOne K k c = some y ∧ (y = true → ∀ e d, u e d k (clrU i D) XS0 (ρ.set i (some (.exc e d k fs xs))) S) ∧ (y = false → hX K D X r k fs xs ρ S)
def uTry (K : PySem.W.Frag) (tb : US) (l : List (Value × Option Nat × SuU)) : US := fun D X ρ S => tb D (hX K D X l) ρ S
inductive HdT (X : Cx) : List ExceptHandler → List (Value × Option Nat × SuU) → Prop
  | nil : HdT X [] []
  | only {x : Str} {c : Value} {u : SuU} {b : Stmt} {bs : List Stmt} {p1 p2 : Pos} {hs : List ExceptHandler} {l : List (Value × Option Nat × SuU)} (nm : Names X x c)
      (su : ∀ (e d : Addr) (o : Obj) (k : Value) (pn : List (Addr × Obj)), Zc k (some d) o → (∃ fs, o.data = .fields fs) → TPSs (X.suite e ((e, o) :: pn)) W0 (b :: bs) (u e d k)) (r : HdT X hs l) :
      HdT X (.ExceptHandler (some (.Name x p1)) none (b :: bs) p2 :: hs) ((c, none, u) :: l)
  | named {x n : Str} {i : Nat} {c : Value} {u : SuU} {b : Stmt} {bs : List Stmt} {p1 p2 : Pos} {hs : List ExceptHandler} {l : List (Value × Option Nat × SuU)} (nd : X.N.Nodup) (at_ : X.N[i]? = some n) (lc : X.env.kindOf n = some .local) (nm : Names X x c)
      (su : ∀ (e d : Addr) (o : Obj) (k : Value) (pn : List (Addr × Obj)), Zc k (some d) o → (∃ fs, o.data = .fields fs) → TPSs (X.suite e ((e, o) :: pn)) W0 (b :: bs) (u e d k)) (r : HdT X hs l) :
      HdT X (.ExceptHandler (some (.Name x p1)) (some n) (b :: bs) p2 :: hs) ((c, some i, u) :: l)
def lowS (K : PySem.W.Frag) (u : SuU) : Sut := fun e k d D σ H => ∃ dd, d = some dd ∧ lS K W0 (u e dd k) D σ H
def liftH (K : PySem.W.Frag) : List (Value × Option Nat × SuU) → List (Value × Option Nat × Sut)
  | [] => []
  | (c, i, u) :: r => (c, i, lowS K u) :: liftH K r
theorem lowS_ok {X : Cx} {u : SuU} {sts : List Stmt} {e : Addr} {o : Obj} {k : Value} {d : Option Addr} {pn : List (Addr × Obj)} (su : ∀ d, Zc k (some d) o → TPSs (X.suite e ((e, o) :: pn)) W0 sts (u e d k)) (z : Zc k d o) : PSs (X.suite e ((e, o) :: pn)) sts (lowS X.K u e k d) :=
  ⟨fun pins s σ H D I ⟨dd, ed, q⟩ => by subst ed; exact (su dd z).pe.run pins s σ H D I q⟩
theorem HdT.low {X : Cx} {hs : List ExceptHandler} {l : List (Value × Option Nat × SuU)} (h : HdT X hs l) : HdM X hs (liftH X.K l) := by
  induction h with
  | nil => exact .nil
  | only nm su r ih => exact .only nm (fun e o k d pn z f => lowS_ok (fun dd z => su e dd o k pn z f) z) ih
  | named nd at_ lc nm su r ih => exact .named nd at_ lc nm (fun e o k d pn z f => lowS_ok (fun dd z => su e dd o k pn z f) z) ih
inductive MonoH : List (Value × Option Nat × SuU) → Prop
  | nil : MonoH []
  | cons {c : Value} {i : Option Nat} {u : SuU} {r : List (Value × Option Nat × SuU)} (m : ∀ e d k, MonoS (u e d k)) (h : MonoH r) : MonoH ((c, i, u) :: r)
theorem HdT.mono {X : Cx} {hs : List ExceptHandler} {l : List (Value × Option Nat × SuU)} (h : HdT X hs l) : MonoH l := by
  induction h with
  | nil => exact .nil
  | only nm su r ih => exact .cons (fun e d k => (su e d ⟨k, some d, .fields #[], #[]⟩ k [] ⟨rfl, rfl⟩ ⟨_, rfl⟩).mono) ih
  | named nd at_ lc nm su r ih => exact .cons (fun e d k => (su e d ⟨k, some d, .fields #[], #[]⟩ k [] ⟨rfl, rfl⟩ ⟨_, rfl⟩).mono) ih
theorem clrU_le {i : Nat} {D D' : UEnds} (h : ULe D D') : ULe (clrU i D) (clrU i D') := ⟨fun _ _ q => h.1 _ _ q, h.2.1, fun _ _ q => h.2.2.1 _ _ q, fun _ _ q => h.2.2.2 _ _ q⟩
theorem hX_mono {K : PySem.W.Frag} {D D' : UEnds} {X X' : XS} (hD : ULe D D') (hXX : XSLe X X') {l : List (Value × Option Nat × SuU)} (m : MonoH l) : XSLe (hX K D X l) (hX K D' X' l) := by
  induction m with
  | nil => exact hXX
  | @cons c i u r m _ ih =>
    intro k fs xs ρ S h
    cases i with
    | none =>
      obtain ⟨y, h1, h2, h3⟩ := h
      exact ⟨y, h1, fun z e d => m _ _ _ _ _ _ _ _ _ hD (fun _ _ _ _ _ q => q) (h2 z e d), fun z => ih _ _ _ _ _ (h3 z)⟩
    | some i =>
      obtain ⟨y, h1, h2, h3⟩ := h
      exact ⟨y, h1, fun z e d => m _ _ _ _ _ _ _ _ _ (clrU_le hD) (fun _ _ _ _ _ q => q) (h2 z e d), fun z => ih _ _ _ _ _ (h3 z)⟩
theorem hX_low {K : PySem.W.Frag} {L : Lk} {F I : Hp} {Wo : WX} {D : L2.Ends} {l : List (Value × Option Nat × SuU)} (m : MonoH l) : XSLe (hX K (dnD K L F I D) (dnXS K L F I Wo) l) (dnXS K L F I (wMix K Wo D (liftH K l))) := by
  induction m with
  | nil => exact fun _ _ _ _ _ h => h
  | @cons c i u r m _ ih =>
    intro k fs xs ρ S h d σ' H' I' hd s sl xd
    cases i with
    | none =>
      obtain ⟨y, h1, h2, h3⟩ := h
      exact ⟨y, h1, fun z e ne => ⟨d, rfl, L, F, S, I', ρ, hd, sl, m _ _ _ _ _ _ _ _ _ (dnD_up s) (fun _ _ _ _ _ q => q.elim) (h2 z e d)⟩, fun z => ih _ _ _ _ _ (h3 z) d σ' H' I' hd s sl xd⟩
    | some i =>
      obtain ⟨y, h1, h2, h3⟩ := h
      refine ⟨y, h1, fun z e ne => ?_, fun z => ih _ _ _ _ _ (h3 z) d σ' H' I' hd s sl xd⟩
      obtain ⟨vs, g1, g2, g3, g4, g5, g6⟩ := xd
      have hd2 := hd.adopt g1 g4 g5 g6
      have s2 : Same I' (upd I' d (.xd (fs.zip vs))) := upd_sub g4
      have sl2 : Slots K (upd I' d (.xd (fs.zip vs))) (σ'.set i (some (.ref e))) (ρ.set i (some (.exc e d k fs xs))) := (sl.mono s2).set ⟨rfl, vs, upd_same, g2, RepL.mono s2 _ _ g3⟩
      refine ⟨d, rfl, L, F, S, _, _, hd2, sl2, m _ _ _ _ _ _ _ _ _ ?_ (fun _ _ _ _ _ q => q.elim) (h2 z e d)⟩
      have up := dnD_up (K := K) (L := L) (F := F) (D := D) (s.trans s2)
      exact ⟨fun ρ1 S1 q σ1 H1 I1 hd1 s1 sl1 => up.1 _ _ q _ _ _ hd1 s1 sl1.none, up.2.1, fun ρ1 S1 q σ1 H1 I1 hd1 s1 sl1 => up.2.2.1 _ _ q _ _ _ hd1 s1 sl1.none, fun ρ1 S1 q σ1 H1 I1 hd1 s1 sl1 => up.2.2.2 _ _ q _ _ _ hd1 s1 sl1.none⟩
theorem s_try {X : Cx} {K : PySem.W.Frag} {body : List Stmt} {g : ExceptHandler} {gs : List ExceptHandler} {l : List (Value × Option Nat × SuU)} {pos : Pos} {tb : US} {Wo : WX} (hk : X.K = K) (st : X.stack = X.env :: X.outer) (fr : X.env.frame = some X.env.locals) (tk : L2.Takes X Wo)
    (bd : ∀ (W : WX) (pn : List (Addr × Obj)) (xe : Value → Shared → Prop), L2.Takes (X.tr pn xe) W → PassesOwn (model X.prog X.w) X.A X.env xe → TPSs (X.tr pn xe) W body tb)
    (hd : HdT X (g :: gs) l) : TPS X Wo (.Try body (g :: gs) [] [] pos) (uTry K tb l) := by
  subst hk
  have mb : MonoS tb := (bd W0 [] (fun _ _ => False) (fun u s' ⟨_, _, _, _, _, _, _, _, _, _, _, _, _, _, _, _, w⟩ => w.elim) PassesOwn.never).mono
  refine ⟨wkS (ps_try_mix (tb := fun W => lS X.K W tb) st fr tk (fun W pn xe t po => (bd W pn xe t po).pe) hd.low) fun D σ H ⟨L, F, S, I, ρ, hd1, sl, h⟩ => ⟨L, F, S, I, ρ, hd1, sl, mb _ _ _ _ _ _ (ULe.refl _) (hX_low hd.mono) h⟩, fun D D' X X' ρ S hD hXX h => mb _ _ _ _ _ _ hD (hX_mono hD hXX hd.mono) h⟩
/-! ### e.f and isinstance(e, C) in a suite -/
/-- e.f, e what the suite holds -/
def uXf (K : PySem.W.Frag) (e d : Addr) (k : Value) (f : Str) (te : UE) : UE := fun ρ S Q X => te ρ S (fun x S1 => ∃ C fs xs y, x = .exc e d k fs xs ∧ k = .ref C ∧ ExcC K C ∧ PySem.W.findIn K (.ref C) f = some none ∧ fget f fs xs = some y ∧ Q y S1) X
def uIsE (K : PySem.W.Frag) (e d : Addr) (k u : Value) (te : UE) : UE := fun ρ S Q X => te ρ S (fun x S1 => ∃ C fs xs b, x = .exc e d k fs xs ∧ k = .ref C ∧ ExcC K C ∧ PySem.W.kitOne K (.ref C) u = some b ∧ Q (.bl b) S1) X
theorem mono_xf {K : PySem.W.Frag} {e d : Addr} {k : Value} {f : Str} {te : UE} (m : MonoE te) : MonoE (uXf K e d k f te) := fun ρ S Q Q' X X' hQ hX h => m _ _ _ _ _ _ (fun x S1 ⟨C, fs, xs, y, e1, e2, e3, e4, e5, q⟩ => ⟨C, fs, xs, y, e1, e2, e3, e4, e5, hQ _ _ q⟩) hX h
theorem mono_isE {K : PySem.W.Frag} {e d : Addr} {k u : Value} {te : UE} (m : MonoE te) : MonoE (uIsE K e d k u te) := fun ρ S Q Q' X X' hQ hX h => m _ _ _ _ _ _ (fun x S1 ⟨C, fs, xs, y, e1, e2, e3, e4, q⟩ => ⟨C, fs, xs, y, e1, e2, e3, e4, hQ _ _ q⟩) hX h
theorem excC_xf {K : PySem.W.Frag} {C : Addr} (h : ExcC K C) : XfC K C := ⟨h.hg, h.hk, h.hs, h.hd⟩
section
variable {X : Cx} {K : PySem.W.Frag} {e d : Addr} {o : Obj} {k : Value} {pn : List (Addr × Obj)} {a : Expr} {te : UE} {f : Str} {pos : Pos}
theorem e_xf (z : Zc k (some d) o) (hf : ∃ fs, o.data = .fields fs) (hk : X.K = K) (he : TPE (X.suite e ((e, o) :: pn)) W0 a te) (hb : attributeBase a f X.env (eval a X.env) = eval a X.env) :
    TPE (X.suite e ((e, o) :: pn)) W0 (.Attribute a f pos) (uXf K e d k f te) := by
  subst hk
  refine ⟨⟨fun pins s σ H Q I h => ?_⟩, mono_xf he.mono⟩
  obtain ⟨L, F, S, I0, ρ, hd, sl, h⟩ := h
  by_cases hC : ∃ C, k = .ref C ∧ ExcC X.K C ∧ PySem.W.findIn X.K (.ref C) f = some none
  · obtain ⟨C, rfl, T, no⟩ := hC
    refine (pe_xf (excC_xf T) no z hf he.pe hb).run pins s σ H Q I ?_
    refine lE_then he.mono hd sl h (fun _ _ _ _ q => q) fun x S1 v H1 I1 ⟨C', fs, xs, y, e1, e2, e3, e4, e5, q⟩ hd1 s1 sl1 r => ?_
    subst e1
    obtain ⟨rv, vs, g1, g2, g3⟩ := r
    obtain ⟨w, hw, rw_⟩ := fget_lk g3 e5
    have hL : L d = none := by
      cases e : L d with
      | none => rfl
      | some od => obtain ⟨kv, z⟩ := hd1.lck d od e; rw [g1] at z; cases z
    refine ⟨rv, rfl, d, _, w, rfl, ?_, hw, q w H1 I1 hd1 s1 rw_⟩
    have := hd1.sub _ _ g1
    rw [hL] at this
    exact this
  · have no : lE X.K W0 te σ H (fun _ _ => False) := lE_then he.mono hd sl h (fun _ _ _ _ q => q) fun x S1 v H1 I1 ⟨C', fs, xs, y, e1, e2, e3, e4, e5, q⟩ hd1 s1 sl1 r => hC ⟨C', e2, e3, e4⟩
    exact attr_of hb (thn (he.pe.run pins s σ H _ I no) fun u s1 ⟨_, _, _, _, z⟩ => z.elim)
end
/-- isinstance(e, c) of what the suite holds, whatever its dict -/
theorem call_isD {X : Cx} {a D dd : Addr} {oe : Obj} {pn : List (Addr × Obj)} (C : ExcC X.K D) (hz : Zc (.ref D) (some dd) oe) (hf : ∃ vs, oe.data = .fields vs) :
    CallR (X.suite a ((a, oe) :: pn)) (.builtin "isinstance") (fun xs H Q => ∃ fs, H dd = some (.xd fs) ∧ rIsE X.K D a xs H Q) := by
  rintro pins s σ H xs us Q I r ⟨fs, hdd, c, cv, b, rfl, hcv, e, q⟩
  obtain _ | ⟨rx, _ | ⟨rt, _ | _⟩⟩ := r
  cases rx
  have ec := hcv _ rt; subst ec
  have hp := (I.pin (a, oe) (List.mem_append.mpr (.inl List.mem_cons_self))).1
  obtain ⟨vs, hv⟩ := hf
  obtain ⟨mA, hns, _⟩ : ObjOk X.prog X.w H s.heap dd (.xd fs) := I.hok dd _ hdd
  obtain ⟨od, ho, _⟩ := lookIn_ns hns
  have J : PySem.W.InstAt s.heap a oe D (some od) := ⟨hp, hz.1, by unfold PySem.W.notCls; rw [hv] <;> rfl, by rw [hz.2]; exact ho⟩
  have hcl : (PySem.W.clsIn X.K D).isSome = true := by obtain ⟨cd, hc, _⟩ := PySem.W.any_some C.hd; rw [hc]; rfl
  exact PySem.W.kia_one (PySem.W.kitx_exc (od := some od) hcl C.hg C.hk C.hs C.ha C.hn C.ht C.hm) I.kIn J e (fun z => nomatch z) fun tk => ⟨.bl b, H, I.kept (t' := tk) fun _ _ z => z, rfl, q⟩
theorem e_isE {X : Cx} {K : PySem.W.Frag} {e d : Addr} {o : Obj} {k u : Value} {pn : List (Addr × Obj)} {a c : Expr} {te : UE} {v1 : V} {p pos : Pos} (z : Zc k (some d) o) (hf : ∃ fs, o.data = .fields fs) (hk : X.K = K) (hg : Gl X "isinstance") (hm : X.mg "isinstance" = none) (he : TPE (X.suite e ((e, o) :: pn)) W0 a te) (hc : PE (X.suite e ((e, o) :: pn)) c (tC v1)) (h1 : ClsV v1 u)
    (s3 : starEach (a :: [c]) X.env = (false, eval a X.env) :: starEach [c] X.env := by rfl) (s4 : starEach [c] X.env = (false, eval c X.env) :: starEach [] X.env := by rfl)
    (hpl : (backTo pos (starEach [c] X.env)).any (·.1) = false := by rfl) : TPE (X.suite e ((e, o) :: pn)) W0 (.Call (.Name "isinstance" p) [a, c] [] pos) (uIsE K e d k u te) := by
  subst hk
  refine ⟨⟨fun pins s σ H Q I h => ?_⟩, mono_isE he.mono⟩
  obtain ⟨L, F, S, I0, ρ, hd, sl, h⟩ := h
  have hL : ∀ {H1 I1 : Hp} {S1 : Sto} {fs : List (Str × V)}, Hd X.K L F H1 S1 I1 → I1 d = some (.xd fs) → H1 d = some (.xd fs) := fun {H1 I1 S1 fs} hd1 g => by
    have q := hd1.sub _ _ g
    cases e : L d with
    | none => rw [e] at q; exact q
    | some od => obtain ⟨kv, z⟩ := hd1.lck d od e; rw [g] at z; cases z
  by_cases hC : ∃ C, k = .ref C ∧ ExcC X.K C
  · obtain ⟨C, rfl, T⟩ := hC
    refine (pe_callB (call_isD T z hf) hg hm boot_isinstance (pa_cons he.pe (pa_cons hc pa_nil s4) s3) (he := s3) (hpl := hpl)).run pins s σ H Q I ?_
    refine lE_then he.mono hd sl h (fun _ _ _ _ q => q) fun x S1 v H1 I1 ⟨C', fs, xs, b, e1, e2, e3, e4, q⟩ hd1 s1 sl1 r => ?_
    cases e2
    subst e1
    obtain ⟨rv, vs, g1, g2, g3⟩ := r
    subst rv
    exact ⟨_, hL hd1 g1, v1, u, b, rfl, fun w rw_ => h1.eq rw_, e4, q _ H1 I1 hd1 s1 rfl⟩
  · have no : lE X.K W0 te σ H (fun _ _ => False) := lE_then he.mono hd sl h (fun _ _ _ _ q => q) fun x S1 v H1 I1 ⟨C', fs, xs, b, e1, e2, e3, e4, q⟩ hd1 s1 sl1 r => hC ⟨C', e2, e3⟩
    refine (pe_callB (X := X.suite e ((e, o) :: pn)) (id := "isinstance") (r := fun _ _ _ => False) (fun _ _ _ _ _ _ _ _ _ z => z.elim) hg hm boot_isinstance (pa_cons he.pe (pa_cons hc pa_nil s4) s3) (he := s3) (hpl := hpl)).run pins s σ H Q I ?_
    exact no
/-! ### raise C(e, ..), C a class of the program -/
/-- what C's own __init__ keeps, C's fields as its parameters stand -/
def spX (C : Addr) (fs : List Str) : Sp := fun vs H Q _ => ∃ (a : Addr) (ws : List V), vs = .ref a :: ws ∧ ws.length = fs.length ∧ H a = some (exo a C none) ∧ ∀ d, H d = none → d ≠ a → Q .non (upd (upd H d (exd d (fs.zip ws))) a (exo a C (some d)))
structure ExcT (P : Program) (w : World) (K : PySem.W.Frag) (mg : Str → Option Value) (base : Heap) (k : Nat) (x : Str) (C : Addr) (fs : List Str) : Prop where
  ex : ∃ (CX : CXT) (f : Addr) (fd : FuncData) (ps : List Str), OexC K C ∧ mg x = some (.ref C) ∧ PySem.W.findIn K (.ref C) "__init__" = some (some (.ref f)) ∧ PySem.W.typeIn K (.ref f) = some (.type "function") ∧ Binds K fd ps [] ∧ FnOk P w K mg base CX k f fd ps (spX C fs) ∧ (∀ X : Cx, Passes CX X (fun _ _ _ => False))
  few : fs.length ≤ 1000
def uRaise (C : Addr) (fs : List Str) (ta : UA) : US := fun D X ρ S => ta ρ S (fun xs S1 => xs.length = fs.length ∧ X (.ref C) fs xs ρ S1) (atR X ρ)
theorem upd_made {H : Hp} {a d : Addr} {o1 o2 u x : HO} (na : H a = none) (nda : d ≠ a) : upd (del (upd (upd (upd H a o1) d u) a o2) a) d x = upd H d x := by
  funext b
  by_cases h : b = d
  · subst h; rw [upd_same, upd_same]
  · rw [upd_ne h, upd_ne h]
    by_cases h2 : b = a
    · subst h2; rw [del_same, na]
    · rw [del_ne h2, upd_ne h2, upd_ne h, upd_ne h2]
theorem s_raise {X : Cx} {W : WX} {k : Nat} {x : Str} {C : Addr} {fs : List Str} {e : Expr} {es : List Expr} {ta : UA} {p pos1 pos : Pos} (E : ExcT X.prog X.w X.K X.mg X.base k x C fs) (hc : X.calm = true) (hr : Room (k + 1) X.A) (hg : Gl X x) (tk : L2.Takes X W) (ha : TPA X W (e :: es) ta)
    (hdb : (x == ("__debug__" : Str)) = false := by decide) (he : starEach (e :: es) X.env = (false, eval e X.env) :: starEach es X.env := by rfl) (hpl : (backTo pos1 (starEach es X.env)).any (·.1) = false := by rfl) :
    TPS X W (.Raise (some (.Call (.Name x p) (e :: es) [] pos1)) none pos) (uRaise C fs ta) := by
  obtain ⟨⟨CX, f, fd, ps, T, hm, h1, h2, b, Fn, px⟩, few⟩ := E
  refine ⟨wkS (L2.ps_raise hc tk (pmk_oex T h1 h2 Fn hr b .nil (px X) hg hm ha.pe hdb he hpl)) fun D σ H ⟨L, F, S, I, ρ, hd, sl, h⟩ => ?_, fun D D' X1 X2 ρ S hD hXX h => ha.mono _ _ _ _ _ _ (fun xs S1 q => ⟨q.1, hXX _ _ _ _ _ q.2⟩) (fun c gs ys S1 q => hXX _ _ _ _ _ q) h⟩
  refine lA_then ha.mono hd sl h (dnXS_at sl) fun ys S1 vs H1 I1 ⟨len, q⟩ hd1 s1 sl1 r => ⟨by rw [r.len, len]; exact few, fun a na => ?_⟩
  refine ⟨a, vs, by rw [List.append_nil], by rw [r.len, len], upd_same, fun d nd nda => ⟨rfl, d, fs.zip vs, upd_same, by rw [upd_ne nda, upd_same], ?_, ?_⟩⟩
  · rw [upd_ne nda] at nd; exact nd
  · rw [upd_ne nda] at nd
    rw [upd_made na nda]
    exact q d σ _ I1 (hd1.un nd) s1 sl1 ⟨vs, upd_same, len.symm, r, hd1.freeI nd, hd1.freeS nd, hd1.freeF nd⟩
/-- a class with `def __init__(self, y): self.f = y` -/
theorem DefM.excT1 {P : Program} {w : World} {K : PySem.W.Frag} {mg : Str → Option Value} {base : Heap} {C : Addr} {x qual f1 : Str} {st : Stmt} {N ps : List Str} {k : Nat} (D : DefM K C "__init__" qual st []) (O : OexC K C) (g : mg x = some (.ref C)) (no : PySem.W.findIn K (.ref C) f1 = some none) (S : FnScope N ps (defScope st))
    (hb : ∀ (kV doc pm : Value) (an : Option Addr) (cdv ct : Value) (us : List Value), us.length = ps.length → bindArgs (PySem.W.fnOf "__init__" qual (defArgs st) (defBody st) (defScope st) .none kV doc pm an cdv ct) ⟨us, []⟩ = pure (ps.zip us)) (hl : ps.length = 2) (hN : ∀ v u : V, start N [v, u] = [some v, some u])
    (body : ∀ (f : Addr) (cdv : Value) (A : Around) (outer : List Env) (s : Shared) (H : Hp) (E : XK), PSs (cxOf CX0 P w K mg base N qual (defScope st) f cdv A outer s H E).nox (defBody st) (tOst K f1 (tVar 0) (tVar 1))) : ExcT P w K mg base (k + 1) x C [f1] := by
  obtain ⟨f, fd, F, h1, h2⟩ := D.ex
  refine ⟨⟨CX0, f, fd, ps, O, g, h1, beq_iff_eq.mp h2, F.bindsN hb, F.ok S (fun vs H Q E ⟨a, ws, e, l, _⟩ => by rw [e, hl]; exact congrArg (· + 1) l) fun cdv A outer s H vs Q E hr ⟨a, ws, e, l, ha, q⟩ => ⟨_, (body f cdv A outer s H E).nox, ?_⟩, fun X => pass0⟩, by show 1 ≤ 1000; decide⟩
  match ws, l with
  | [y], _ =>
    subst e
    rw [hN]
    exact ⟨y, rfl, .ref a, rfl, a, C, rfl, O, no, .inl ⟨ha, fun d nd nda => q d nd nda⟩⟩
theorem exd_eq {d : Addr} {fs gs : List (Str × V)} (h : ∀ f, fs.lookup f = gs.lookup f) : exd d fs = exd d gs := by
  unfold exd
  congr 1
  funext hp
  simp only [h]
theorem upd_upd {H : Hp} {a : Addr} {o u : HO} : upd (upd H a o) a u = upd H a u := by
  funext b
  by_cases h : b = a
  · subst h; rw [upd_same, upd_same]
  · rw [upd_ne h, upd_ne h, upd_ne h]
theorem upd_comm {H : Hp} {a b : Addr} {o u : HO} (h : a ≠ b) : upd (upd H a o) b u = upd (upd H b u) a o := by
  funext c
  by_cases h1 : c = b
  · subst h1; rw [upd_same, upd_ne h.symm, upd_same]
  · rw [upd_ne h1]
    by_cases h2 : c = a
    · subst h2; rw [upd_same, upd_same]
    · rw [upd_ne h2, upd_ne h2, upd_ne h1]
/-- self.f = y, self.g = z, .. -/
def tInit (K : PySem.W.Frag) : Nat → List Str → TS
  | _, [] => fun D σ H => D.nx σ H
  | i, [f] => tOst K f (tVar 0) (tVar i)
  | i, f :: g :: r => tSeq (tOst K f (tVar 0) (tVar i)) (tInit K (i + 1) (g :: r))
theorem tInit_more {K : PySem.W.Frag} {C a d : Addr} {D : L2.Ends} {σ : L2.St} {v0 : V} (e0 : σ[0]? = some (some v0)) (ev : v0 = .ref a) (O : OexC K C) : ∀ (fs : List Str) (i : Nat) (ws : List V) (H : Hp) (us : List (Str × V)), fs ≠ [] → ws.length = fs.length → (∀ j w, ws[j]? = some w → σ[i + j]? = some (some w)) → (∀ f ∈ fs, PySem.W.findIn K (.ref C) f = some none) → us.length + fs.length ≤ 900 → H a = some (exo a C (some d)) → H d = some (exd d us) → d ≠ a →
    D.nx σ (upd H d (exd d ((fs.zip ws).reverse ++ us))) → tInit K i fs D σ H
  | [], _, _, _, _, n, _, _, _, _, _, _, _, _ => (n rfl).elim
  | [f], i, ws, H, us, _, l, g, no, fw, ha, hd, nda, q => by
    match ws, l with
    | [y], _ =>
      subst ev
      exact ⟨y, g 0 y rfl, .ref a, e0, a, C, rfl, O, no f (by simp), .inr ⟨d, us, ha, hd, by simp at fw; omega, q⟩⟩
  | f :: f2 :: r, i, ws, H, us, _, l, g, no, fw, ha, hd, nda, q => by
    match ws, l with
    | y :: ws, l =>
      refine ⟨y, g 0 y rfl, v0, e0, a, C, ev, O, no f (by simp), .inr ⟨d, us, ha, hd, by simp at fw; omega, ?_⟩⟩
      refine tInit_more e0 ev O (f2 :: r) (i + 1) ws _ ((f, y) :: us) (by simp) (by simpa using l) (fun j w h => by have := g (j + 1) w (by simpa using h); rwa [show i + (j + 1) = i + 1 + j by omega] at this) (fun x hx => no x (List.mem_cons_of_mem _ hx)) (by simp at fw ⊢; omega) (by rw [upd_ne nda.symm]; exact ha) upd_same nda ?_
      rw [upd_upd]
      have e : ((f2 :: r).zip ws).reverse ++ (f, y) :: us = ((f :: f2 :: r).zip (y :: ws)).reverse ++ us := by simp
      rw [e]; exact q
theorem zip_rev_lookup {fs : List Str} {ws : List V} (nd : fs.Nodup) (f : Str) : (fs.zip ws).reverse.lookup f = (fs.zip ws).lookup f := by
  induction fs generalizing ws with
  | nil => rfl
  | cons g r ih =>
    cases ws with
    | nil => rfl
    | cons w ws =>
      obtain ⟨h1, h2⟩ := List.nodup_cons.mp nd
      rw [List.zip_cons_cons, List.reverse_cons, List.lookup_append, ih h2]
      by_cases h : f = g
      · subst h
        have : (r.zip ws).lookup f = none := by
          rw [List.lookup_eq_none_iff]
          intro p hp
          have := List.of_mem_zip hp
          exact by
            rw [bne_iff_ne]
            intro z
            exact h1 (z ▸ this.1)
        rw [this]
        simp [List.lookup]
      · have : (f == g) = false := by simpa using h
        simp only [List.lookup, this]
        cases (r.zip ws).lookup f <;> rfl
/-- a class with `def __init__(self, y, ..): self.f = y; ..` -/
theorem DefM.excT {P : Program} {w : World} {K : PySem.W.Frag} {mg : Str → Option Value} {base : Heap} {C : Addr} {x qual : Str} {fs : List Str} {st : Stmt} {N ps : List Str} {k : Nat} (D : DefM K C "__init__" qual st []) (O : OexC K C) (g : mg x = some (.ref C)) (no : ∀ f ∈ fs, PySem.W.findIn K (.ref C) f = some none) (S : FnScope N ps (defScope st))
    (hb : ∀ (kV doc pm : Value) (an : Option Addr) (cdv ct : Value) (us : List Value), us.length = ps.length → bindArgs (PySem.W.fnOf "__init__" qual (defArgs st) (defBody st) (defScope st) .none kV doc pm an cdv ct) ⟨us, []⟩ = pure (ps.zip us)) (hl : ps.length = fs.length + 1) (nd : fs.Nodup) (h0 : fs ≠ []) (few : fs.length ≤ 100)
    (hN : ∀ (v : V) (us : List V), us.length = fs.length → ∀ (j : Nat) (u : V), (v :: us)[j]? = some u → (start N (v :: us))[j]? = some (some u))
    (body : ∀ (f : Addr) (cdv : Value) (A : Around) (outer : List Env) (s : Shared) (H : Hp) (E : XK), PSs (cxOf CX0 P w K mg base N qual (defScope st) f cdv A outer s H E).nox (defBody st) (tInit K 1 fs)) : ExcT P w K mg base (k + 1) x C fs := by
  obtain ⟨f, fd, F, h1, h2⟩ := D.ex
  refine ⟨⟨CX0, f, fd, ps, O, g, h1, beq_iff_eq.mp h2, F.bindsN hb, F.ok S (fun vs H Q E ⟨a, ws, e, l, _⟩ => by rw [e, hl]; exact congrArg (· + 1) l) fun cdv A outer s H vs Q E hr ⟨a, ws, e, l, ha, q⟩ => ⟨_, (body f cdv A outer s H E).nox, ?_⟩, fun X => pass0⟩, by omega⟩
  subst e
  have e0 : (start N (.ref a :: ws))[0]? = some (some (.ref a)) := hN _ ws l 0 _ rfl
  match fs, ws, l, h0 with
  | [f1], [y], _, _ => exact ⟨y, hN _ [y] rfl 1 y rfl, .ref a, e0, a, C, rfl, O, no f1 (by simp), .inl ⟨ha, fun d nd nda => q d nd nda⟩⟩
  | f1 :: f2 :: r, y :: ws, l, _ =>
    refine ⟨y, hN _ (y :: ws) l 1 y rfl, .ref a, e0, a, C, rfl, O, no f1 (by simp), .inl ⟨ha, fun d hd nda => ?_⟩⟩
    refine tInit_more (v0 := .ref a) e0 rfl O (f2 :: r) 2 ws _ [(f1, y)] (by simp) (by simpa using l) (fun j w h => hN _ (y :: ws) l (2 + j) w (by rw [show 2 + j = j + 1 + 1 by omega]; simpa using h)) (fun x hx => no x (List.mem_cons_of_mem _ hx)) (by simp at few ⊢; omega) upd_same (by rw [upd_ne nda, upd_same]) nda ?_
    have e : ((f2 :: r).zip ws).reverse ++ [(f1, y)] = ((f1 :: f2 :: r).zip (y :: ws)).reverse := by simp
    rw [e, upd_comm nda, upd_upd, upd_comm nda.symm, exd_eq (gs := (f1 :: f2 :: r).zip (y :: ws)) (zip_rev_lookup nd)]
    exact q d hd nda
theorem start_at {N : List Str} {vs : List V} {j : Nat} {u : V} (h : vs[j]? = some u) : (start N vs)[j]? = some (some u) := by
  unfold L2.start
  have hj : j < vs.length := (List.getElem?_eq_some_iff.mp h).1
  rw [List.getElem?_append_left (by simpa using hj), List.getElem?_map, h]
  rfl
theorem ExcT.lift {P : Program} {w : World} {K : PySem.W.Frag} {mg : Str → Option Value} {base : Heap} {j k : Nat} {x : Str} {C : Addr} {fs : List Str} (E : ExcT P w K mg base j x C fs) (h : j ≤ k) : ExcT P w K mg base k x C fs := by
  obtain ⟨⟨CX, f, fd, ps, T, hm, h1, h2, b, Fn, px⟩, few⟩ := E
  exact ⟨⟨CX, f, fd, ps, T, hm, h1, h2, b, Fn.mono h, px⟩, few⟩
/-- what is known of an exception class -/
structure XTop (mg : Str → Option Value) (x : Str) (C : Addr) : Prop where
  mg : mg x = some (.ref C)
end KQ
namespace KQ
open PySem PySem.Spec PyProof.Rows L2 TL KB
/-! ### calls with keywords -/
/-- constants as defaults -/
def cV : Tr → V
  | .bl b => .bl b
  | .int n => .int n
  | .str z => .str z
  | _ => .non
def isC : Tr → Bool
  | .non => true
  | .bl _ => true
  | .int _ => true
  | .str _ => true
  | _ => false
theorem cV_rep {K : PySem.W.Frag} {I : Hp} {x : Tr} (h : isC x = true) : Rep K I x (cV x) := by
  cases x <;> first | rfl | cases h
theorem cV_reps {K : PySem.W.Frag} {I : Hp} : ∀ {xs : List Tr}, xs.all isC = true → RepL K I xs (xs.map cV)
  | [], _ => rfl
  | x :: xs, h => by
    rw [List.all_cons, Bool.and_eq_true] at h
    exact .cons (cV_rep h.1) (cV_reps h.2)
def kwV (kws : List (Str × Tr)) : List (Str × V) := kws.map fun q => (q.1, cV q.2)
/-- the parameters' values: of the written ones (0), the lacking ones (1), the keywords (2), by place -/
def pick {α : Type} (l : List (Nat × Nat)) (us mv ws : List α) : List α := l.filterMap fun p => if p.1 = 0 then us[p.2]? else if p.1 = 1 then mv[p.2]? else ws[p.2]?
theorem pick_nil {α : Type} {us mv ws : List α} : pick [] us mv ws = [] := rfl
theorem pick_0 {α : Type} {i : Nat} {l : List (Nat × Nat)} {us mv ws : List α} {x : α} (h : us[i]? = some x) : pick ((0, i) :: l) us mv ws = x :: pick l us mv ws := by
  unfold pick; rw [List.filterMap_cons]; simp only [if_true, h]
theorem pick_1 {α : Type} {i : Nat} {l : List (Nat × Nat)} {us mv ws : List α} {x : α} (h : mv[i]? = some x) : pick ((1, i) :: l) us mv ws = x :: pick l us mv ws := by
  unfold pick; rw [List.filterMap_cons]; simp [h]
theorem pick_2 {α : Type} {i : Nat} {l : List (Nat × Nat)} {us mv ws : List α} {x : α} (h : ws[i]? = some x) : pick ((2, i) :: l) us mv ws = x :: pick l us mv ws := by
  unfold pick; rw [List.filterMap_cons]; simp [h]
theorem vals_fm {f : Nat × Nat → Option V} {g : Nat × Nat → Option Value} (h : ∀ p, (∃ v u, f p = some v ∧ g p = some u ∧ RelV v u) ∨ (f p = none ∧ g p = none)) : ∀ l : List (Nat × Nat), Vals (l.filterMap f) (l.filterMap g)
  | [] => .nil
  | p :: l => by
    rcases h p with ⟨v, u, e1, e2, r⟩ | ⟨e1, e2⟩
    · rw [List.filterMap_cons_some e1, List.filterMap_cons_some e2]; exact .cons r (vals_fm h l)
    · rw [List.filterMap_cons_none e1, List.filterMap_cons_none e2]; exact vals_fm h l
theorem vals_opt {vs : List V} {us : List Value} (r : Vals vs us) (i : Nat) : (∃ v u, vs[i]? = some v ∧ us[i]? = some u ∧ RelV v u) ∨ (vs[i]? = none ∧ us[i]? = none) := by
  cases e : vs[i]? with
  | none => exact .inr ⟨rfl, r.none_of e⟩
  | some v => obtain ⟨u, e2, q⟩ := r.get e; exact .inl ⟨v, u, rfl, e2, q⟩
theorem pick_rel (l : List (Nat × Nat)) {vs mz zs : List V} {us mv ws : List Value} (r1 : Vals vs us) (r2 : Vals mz mv) (r3 : Vals zs ws) : Vals (pick l vs mz zs) (pick l us mv ws) := by
  refine vals_fm (fun p => ?_) l
  by_cases h0 : p.1 = 0
  · simp only [h0, if_true]; exact vals_opt r1 _
  · by_cases h1 : p.1 = 1
    · simp only [h1, if_true, if_neg (show ¬ (1 : Nat) = 0 by decide)]; exact vals_opt r2 _
    · simp only [if_neg h0, if_neg h1]; exact vals_opt r3 _
theorem rep_fm {K : PySem.W.Frag} {I : Hp} {f : Nat × Nat → Option Tr} {g : Nat × Nat → Option V} (h : ∀ p, (∃ v u, f p = some v ∧ g p = some u ∧ Rep K I v u) ∨ (f p = none ∧ g p = none)) : ∀ l : List (Nat × Nat), RepL K I (l.filterMap f) (l.filterMap g)
  | [] => rfl
  | p :: l => by
    rcases h p with ⟨v, u, e1, e2, r⟩ | ⟨e1, e2⟩
    · rw [List.filterMap_cons_some e1, List.filterMap_cons_some e2]; exact .cons r (rep_fm h l)
    · rw [List.filterMap_cons_none e1, List.filterMap_cons_none e2]; exact rep_fm h l
theorem rep_opt {K : PySem.W.Frag} {I : Hp} {xs : List Tr} {vs : List V} (r : RepL K I xs vs) (i : Nat) : (∃ v u, xs[i]? = some v ∧ vs[i]? = some u ∧ Rep K I v u) ∨ (xs[i]? = none ∧ vs[i]? = none) := by
  cases e : xs[i]? with
  | none =>
    refine .inr ⟨rfl, ?_⟩
    rw [List.getElem?_eq_none_iff] at e ⊢
    rw [r.len]; exact e
  | some v => obtain ⟨u, e2, q⟩ := r.get' e; exact .inl ⟨v, u, rfl, e2, q⟩
theorem pick_rep {K : PySem.W.Frag} {I : Hp} (l : List (Nat × Nat)) {xs ms ys : List Tr} {vs mz zs : List V} (r1 : RepL K I xs vs) (r2 : RepL K I ms mz) (r3 : RepL K I ys zs) : RepL K I (pick l xs ms ys) (pick l vs mz zs) := by
  refine rep_fm (fun p => ?_) l
  by_cases h0 : p.1 = 0
  · simp only [h0, if_true]; exact rep_opt r1 _
  · by_cases h1 : p.1 = 1
    · simp only [h1, if_true, if_neg (show ¬ (1 : Nat) = 0 by decide)]; exact rep_opt r2 _
    · simp only [if_neg h0, if_neg h1]; exact rep_opt r3 _
/-- a def with keyword-only parameters, as the top leaves it -/
structure DefK (K : PySem.W.Frag) (mg : Str → Option Value) (x : Str) (st : Stmt) (kws : List (Str × Tr)) : Prop where
  ex : ∃ (f : Addr) (fd : FuncData), FunD K x x (defArgs st) (defBody st) (defScope st) [] (kwV kws) f fd ∧ mg x = some (.ref f)
structure CalleeD (P : Program) (w : World) (K : PySem.W.Frag) (mg : Str → Option Value) (base : Heap) (k : Nat) (x : Str) (st : Stmt) (kws : List (Str × Tr)) (ps : List Str) (t : TSp) : Prop where
  ex : ∃ (f : Addr) (fd : FuncData), FunD K x x (defArgs st) (defBody st) (defScope st) [] (kwV kws) f fd ∧ mg x = some (.ref f) ∧ FnOk P w K mg base (L2.CX P w) k f fd ps (lSp K t)
  mono : MonoSp t
section
variable {P : Program} {w : World} {K : PySem.W.Frag} {mg : Str → Option Value} {base : Heap} {x : Str} {st : Stmt} {kws : List (Str × Tr)} {ps : List Str} {t : TSp}
theorem CalleeD.lift {j k : Nat} (C : CalleeD P w K mg base j x st kws ps t) (h : j ≤ k) : CalleeD P w K mg base k x st kws ps t := by
  obtain ⟨⟨f, fd, F, g, O⟩, m⟩ := C
  exact ⟨⟨f, fd, F, g, O.mono h⟩, m⟩
theorem DefK.ok {N : List Str} {k : Nat} {us : US} (D : DefK K mg x st kws) (S : FnScope N ps (defScope st))
    (len : ∀ xs S Q X, t xs S Q X → xs.length = ps.length) (mono : MonoSp t) (body : BodyT P w K mg base k x st N us)
    (h : ∀ xs S Q X, Closed Q → ClosedX X → t xs S Q X → us (endU Q) (endX X) (startT N xs) S) : CalleeD P w K mg base (k + 1) x st kws ps t := by
  obtain ⟨f, fd, F, g⟩ := D.ex
  exact ⟨⟨f, fd, F, g, fnD_ok F S len body h⟩, mono⟩
theorem DefK.bot {k : Nat} (D : DefK K mg x st kws) (h : ∀ xs S Q X, ¬ t xs S Q X) : CalleeD P w K mg base k x st kws ps t := by
  obtain ⟨f, fd, F, g⟩ := D.ex
  exact ⟨⟨f, fd, F, g, ⟨fun vs H Q E ⟨_, _, _, _, xs, _, r, q⟩ => (h _ _ _ _ q).elim, fun _ _ _ _ _ _ _ _ _ _ _ _ _ ⟨_, _, _, _, xs, _, r, q⟩ => (h _ _ _ _ q).elim⟩⟩, fun xs S Q Q' X X' _ _ q => (h _ _ _ _ q).elim⟩
end
/-- how a call with n positional values and the keywords ks binds; ms lack -/
structure Shp (x qual : Str) (st : Stmt) (kws : List (Str × Tr)) (ps : List Str) (n : Nat) (ks : List Str) (ms : List (Str × Tr)) (l : List (Nat × Nat)) : Prop where
  some : kws ≠ []
  sub : ∀ q ∈ ms, q ∈ kws
  cst : (ms.map (·.2)).all isC = true
  to : ∀ (D : Addr) (doc pm : Value) (an : Option Addr) (cdv ct : Value) (us mv ws : List Value), us.length = n → mv.length = ms.length → ws.length = ks.length →
      KwChain D ((ms.map (·.1)).zip mv) (bindArgs (PySem.W.fnOf x qual (defArgs st) (defBody st) (defScope st) .none (.ref D) doc pm an cdv ct) ⟨us, ks.zip ws⟩) (ps.zip (pick l us mv ws))
theorem Shp.kbn {K : PySem.W.Frag} {x qual : Str} {st : Stmt} {kws : List (Str × Tr)} {ps : List Str} {n : Nat} {ks : List Str} {ms : List (Str × Tr)} {l : List (Nat × Nat)} {f : Addr} {fd : FuncData} (s : Shp x qual st kws ps n ks ms l) (F : FunD K x qual (defArgs st) (defBody st) (defScope st) [] (kwV kws) f fd) :
    ∃ mv : List Value, KBn K fd ps n ks (fun us ws => pick l us mv ws) (fun vs zs => pick l vs (ms.map fun q => cV q.2) zs) := by
  have := F.kbinds0 (ps := ps) n ks (kwV ms) (pick l) (by unfold kwV; intro e; exact s.some (List.map_eq_nil_iff.mp e)) (fun q hq => by
      unfold kwV at hq ⊢
      obtain ⟨p, hp, rfl⟩ := List.mem_map.mp hq
      exact List.mem_map.mpr ⟨p, s.sub p hp, rfl⟩) (fun r1 r2 r3 => pick_rel l r1 r2 r3) (fun D doc pm an cdv ct us mv ws h1 h2 h3 => by
      have := s.to D doc pm an cdv ct us mv ws h1 (by rw [h2]; unfold kwV; simp) h3
      unfold kwV
      rw [List.map_map]
      exact this)
  unfold kwV at this
  rw [List.map_map] at this
  exact this
structure TPK (X : Cx) (W : WX) (kws : List Keyword) (t : UA) : Prop where
  pe : PK X kws (lA X.K W t)
  mono : MonoA t
section
variable {X : Cx} {W : WX} {e : Expr} {es : List Expr} {te : UE} {ta tk : UA} {nm : Option Str} {kpos p pos : Pos} {kl : List Keyword}
theorem k_nil : TPK X W [] uNil := ⟨⟨fun ps pins s σ H Q I h => pk_nil.run ps pins s σ H Q I (by
  obtain ⟨L, F, S, I0, ρ, hd, sl, q⟩ := h
  exact q _ _ _ hd (Same.refl _) rfl)⟩, (a_nil (X := X) (W := W)).mono⟩
theorem k_cons (he : TPE X W e te) (hr : TPK X W kl ta) : TPK X W (⟨nm, e, kpos⟩ :: kl) (uCons te ta) :=
  ⟨⟨fun ps pins s σ H Q I h => (pk_cons (nm := nm) (kpos := kpos) he.pe hr.pe).run ps pins s σ H Q I (by
    obtain ⟨L, F, S, I0, ρ, hd, sl, h⟩ := h
    exact lE_then he.mono hd sl h (fun _ _ _ _ h => h) fun x S1 v H1 I1 q hd1 s1 sl1 r => lA_then hr.mono hd1 sl1 q (dnX_up s1) fun xs S2 vs H2 I2 q2 hd2 s2 sl2 rs => q2 _ _ _ hd2 (s1.trans s2) (.cons (r.mono s2) rs))⟩,
   fun ρ S Q Q' X X' hQ hX h => he.mono _ _ _ _ _ _ (fun x S1 q => hr.mono _ _ _ _ _ _ (fun xs S2 q => hQ _ _ q) hX q) hX h⟩
abbrev Pks := List (Nat × Nat)
def uCallK (n m : Nat) (l : Pks) (ms : List Tr) (tsp : TSp) (ta tk : UA) : UE := fun ρ S Q X => ta ρ S (fun xs S1 => tk ρ S1 (fun zs S2 => xs.length = n ∧ zs.length = m ∧ tsp (pick l xs ms zs) S2 Q X) X) X
theorem mono_callK {n m : Nat} {l : List (Nat × Nat)} {ms : List Tr} {tsp : TSp} (mt : MonoSp tsp) (m1 : MonoA ta) (m2 : MonoA tk) : MonoE (uCallK n m l ms tsp ta tk) := fun ρ S Q Q' X X' hQ hX h =>
  m1 _ _ _ _ _ _ (fun xs S1 q => m2 _ _ _ _ _ _ (fun zs S2 ⟨l1, l2, q⟩ => ⟨l1, l2, mt _ _ _ _ _ _ hQ hX q⟩) hX q) hX h
theorem run_fnK {CX : CXT} {k n : Nat} {f : Addr} {fd : FuncData} {ps ks : List Str} {sp : Sp} {E : L2.St → XK} {g : List Value → List Value → List Value} {gV : List V → List V → List V} {pins : List (Addr × Obj)} {σ : L2.St} {H : Hp} {s : Shared} {Q : VK} {us ws : List Value} {vs zs : List V} (F : FnOk X.prog X.w X.K X.mg X.base CX k f fd ps sp) (hr : Room k X.A) (hb : KBn X.K fd ps n ks g gV) (hx : PassesAt CX X σ (E σ))
    (I : Inv X pins σ H s) (r : Vals vs us) (rz : Vals zs ws) (l1 : vs.length = n) (l2 : zs.length = ks.length) (h : sp (gV vs zs) H Q (E σ)) : wpAny (model X.prog X.w) X.A (call (.ref f) us (ks.zip ws)) (EP X pins σ Q) X.xe s := by
  have r2 := hb.rel r rz
  refine wpAny_call (codeAny_mono (F.run X.A X.stack s H ⟨us, ks.zip ws⟩ (g us ws) (gV vs zs) Q (E σ) hr I.env0 (hb.to s us ws I.kIn (r.length.symm.trans l1) (rz.length.symm.trans l2)) r2 h) fun r s' hq => ?_)
  cases r with
  | error e => exact hx pins H s e s' I hq
  | ok fl =>
    cases fl with
    | ret u => exact I.after hq
    | next => exact False.elim hq
    | brk => exact False.elim hq
    | cont => exact False.elim hq
theorem e_callK {k n : Nat} {x : Str} {st : Stmt} {kws : List (Str × Tr)} {ps ks : List Str} {ms : List (Str × Tr)} {l : List (Nat × Nat)} {tsp : TSp} (C : CalleeD X.prog X.w X.K X.mg X.base k x st kws ps tsp) (sh : Shp x x st kws ps n ks ms l) (hr : Room k X.A) (hg : Gl X x) (tk' : Takes X W) (ha : TPA X W (e :: es) ta) (hkw : TPK X W kl tk)
    (hall : (backToKw pos (keywordEach kl X.env)).all (·.1.isSome) = true := by rfl) (hks : (backToKw pos (keywordEach kl X.env)).filterMap (·.1) = ks := by rfl)
    (hdb : (x == ("__debug__" : Str)) = false := by decide) (he : starEach (e :: es) X.env = (false, eval e X.env) :: starEach es X.env := by rfl)
    (hpl : ((backTo pos (starEach (e :: es) X.env)).any (·.1) || (backToKw pos (keywordEach kl X.env)).any (·.1.isNone)) = false := by rfl) :
    TPE X W (.Call (.Name x p) (e :: es) kl pos) (uCallK n ks.length l (ms.map (·.2)) tsp ta tk) := by
  obtain ⟨⟨f, fd, F, g, O⟩, mt⟩ := C
  obtain ⟨mv, kb⟩ := sh.kbn F
  refine ⟨⟨fun pins s σ H Q I h => ?_⟩, mono_callK mt ha.mono hkw.mono⟩
  obtain ⟨L, F', S, I0, ρ, hd, sl, h⟩ := h
  have h' : lA X.K W ta σ H (fun vs H1 => lA X.K W tk σ H1 (fun zs H2 => vs.length = n ∧ zs.length = ks.length ∧ lSp X.K tsp (pick l vs (ms.map fun q => cV q.2) zs) H2 Q (WE W σ))) :=
    lA_then ha.mono hd sl h (fun _ _ _ _ h => h) fun xs S1 vs H1 I1 q hd1 s1 sl1 r => lA_then hkw.mono hd1 sl1 q (dnX_up s1) fun zs S2 us H2 I2 ⟨l1, l2, q2⟩ hd2 s2 sl2 rz =>
      ⟨by rw [r.len]; exact l1, by rw [rz.len]; exact l2, L, F', S2, I2, _, hd2, pick_rep l (r.mono s2) (by have := cV_reps (K := X.K) (I := I2) sh.cst; rw [List.map_map] at this; exact this) rz, mt _ _ _ _ _ _ (dnV_up (s1.trans s2)) (dnX_up (s1.trans s2)) q2⟩
  refine wpAny_Call_Name_kw (ld_glob I hg g ?_ hdb)
  refine PySem.W.callWith_KW (h₀ := X.base) I.ok.mod.kin F.kp hall (thn (ha.pe.run pos pins s σ H _ I h') fun us s1 ⟨vs, H1, I1, r, q⟩ => ?_) hpl he
  refine thn (hkw.pe.run pos pins s1 σ H1 _ I1 q) fun ws s2 ⟨zs, H2, I2, rz, l1, l2, q2⟩ => ⟨I2.kIn, ?_⟩
  rw [hks]
  exact run_fnK (E := WE W) O hr kb (passAt tk' σ) I2 r rz l1 l2 q2
end
end KQ
namespace KQ
open PySem PySem.Spec PyProof.Rows L2 TL KB ClX
/-! ### plain defs called by names -/
structure ShpP (x : Str) (st : Stmt) (ps : List Str) (n : Nat) (ks : List Str) (l : List (Nat × Nat)) : Prop where
  to : ∀ (kV doc pm : Value) (an : Option Addr) (cdv ct : Value) (us ws : List Value), us.length = n → ws.length = ks.length →
    bindArgs (PySem.W.fnOf x x (defArgs st) (defBody st) (defScope st) .none kV doc pm an cdv ct) ⟨us, ks.zip ws⟩ = pure (ps.zip (pick l us [] ws))
theorem ShpP.kbn {K : PySem.W.Frag} {x : Str} {st : Stmt} {ps : List Str} {n : Nat} {ks : List Str} {l : List (Nat × Nat)} {f : Addr} {fd : FuncData} (s : ShpP x st ps n ks l) (F : Fun K x x st f fd) :
    KBn K fd ps n ks (fun us ws => pick l us [] ws) (fun vs zs => pick l vs [] zs) := by
  obtain ⟨oc, od, kV, doc, pm, an, cdv, ct, osl, rfl, lk, hcd⟩ := F.ex
  exact ⟨fun σ us ws h l1 l2 => .of_eq (s.to _ _ _ _ _ _ _ _ l1 l2), fun r1 r2 => pick_rel l r1 .nil r2⟩
section
variable {X : Cx} {W : WX} {e : Expr} {es : List Expr} {te : UE} {ta tk : UA} {nm : Option Str} {kpos p pos : Pos} {kl : List Keyword}
theorem calleeT_of {P : Program} {w : World} {K : PySem.W.Frag} {mg : Str → Option Value} {base : Heap} {k : Nat} {x : Str} {ps : List Str} {t : TSp} {st : Stmt} {f : Addr} {fd : FuncData} (F : Fun K x x st f fd) (g : mg x = some (.ref f)) (C : CalleeT P w K mg base k x ps t) : FnOk P w K mg base (L2.CX P w) k f fd ps (lSp K t) := by
  obtain ⟨f', fd', g', kp, b, R, oc', od', sl', lk'⟩ := C.ex
  rw [g] at g'
  cases g'
  obtain ⟨oc, od, kV, doc, pm, an, cdv, ct, osl, e, lk, _⟩ := F.ex
  rw [lk] at lk'
  cases lk'
  exact R
theorem e_callP {k n : Nat} {x : Str} {st : Stmt} {ps ks : List Str} {l : List (Nat × Nat)} {tsp : TSp} (D : Def X.K X.mg x st) (C : CalleeT X.prog X.w X.K X.mg X.base k x ps tsp) (sh : ShpP x st ps n ks l) (hr : Room k X.A) (hg : Gl X x) (tk' : Takes X W) (ha : TPA X W (e :: es) ta) (hkw : TPK X W kl tk)
    (hall : (backToKw pos (keywordEach kl X.env)).all (·.1.isSome) = true := by rfl) (hks : (backToKw pos (keywordEach kl X.env)).filterMap (·.1) = ks := by rfl)
    (hdb : (x == ("__debug__" : Str)) = false := by decide) (he : starEach (e :: es) X.env = (false, eval e X.env) :: starEach es X.env := by rfl)
    (hpl : ((backTo pos (starEach (e :: es) X.env)).any (·.1) || (backToKw pos (keywordEach kl X.env)).any (·.1.isNone)) = false := by rfl) :
    TPE X W (.Call (.Name x p) (e :: es) kl pos) (uCallK n ks.length l [] tsp ta tk) := by
  obtain ⟨f, fd, F, g⟩ := D.ex
  have O := calleeT_of F g C
  have mt := C.mono
  have kb := sh.kbn F
  refine ⟨⟨fun pins s σ H Q I h => ?_⟩, mono_callK mt ha.mono hkw.mono⟩
  obtain ⟨L, F', S, I0, ρ, hd, sl, h⟩ := h
  have h' : lA X.K W ta σ H (fun vs H1 => lA X.K W tk σ H1 (fun zs H2 => vs.length = n ∧ zs.length = ks.length ∧ lSp X.K tsp (pick l vs [] zs) H2 Q (WE W σ))) :=
    lA_then ha.mono hd sl h (fun _ _ _ _ h => h) fun xs S1 vs H1 I1 q hd1 s1 sl1 r => lA_then hkw.mono hd1 sl1 q (dnX_up s1) fun zs S2 us H2 I2 ⟨l1, l2, q2⟩ hd2 s2 sl2 rz =>
      ⟨by rw [r.len]; exact l1, by rw [rz.len]; exact l2, L, F', S2, I2, _, hd2, pick_rep l (r.mono s2) (show RepL X.K I2 [] [] from rfl) rz, mt _ _ _ _ _ _ (dnV_up (s1.trans s2)) (dnX_up (s1.trans s2)) q2⟩
  refine wpAny_Call_Name_kw (ld_glob I hg g ?_ hdb)
  refine PySem.W.callWith_KW (h₀ := X.base) I.ok.mod.kin F.kp hall (thn (ha.pe.run pos pins s σ H _ I h') fun us s1 ⟨vs, H1, I1, r, q⟩ => ?_) hpl he
  refine thn (hkw.pe.run pos pins s1 σ H1 _ I1 q) fun ws s2 ⟨zs, H2, I2, rz, l1, l2, q2⟩ => ⟨I2.kIn, ?_⟩
  rw [hks]
  exact run_fnK (E := WE W) O hr kb (passAt tk' σ) I2 r rz l1 l2 q2
/-- f(k=e, ..): names only -/
theorem e_callP0 {k : Nat} {x : Str} {st : Stmt} {ps ks : List Str} {l : List (Nat × Nat)} {tsp : TSp} (D : Def X.K X.mg x st) (C : CalleeT X.prog X.w X.K X.mg X.base k x ps tsp) (sh : ShpP x st ps 0 ks l) (hr : Room k X.A) (hg : Gl X x) (tk' : Takes X W) (hkw : TPK X W kl tk)
    (hall : (backToKw pos (keywordEach kl X.env)).all (·.1.isSome) = true := by rfl) (hks : (backToKw pos (keywordEach kl X.env)).filterMap (·.1) = ks := by rfl)
    (hdb : (x == ("__debug__" : Str)) = false := by decide)
    (hpl : ((backTo pos (starEach [] X.env)).any (·.1) || (backToKw pos (keywordEach kl X.env)).any (·.1.isNone)) = false := by rfl) :
    TPE X W (.Call (.Name x p) [] kl pos) (uCallK 0 ks.length l [] tsp uNil tk) := by
  obtain ⟨f, fd, F, g⟩ := D.ex
  have O := calleeT_of F g C
  have mt := C.mono
  have kb := sh.kbn F
  refine ⟨⟨fun pins s σ H Q I h => ?_⟩, mono_callK mt (a_nil (X := X) (W := W)).mono hkw.mono⟩
  obtain ⟨L, F', S, I0, ρ, hd, sl, h⟩ := h
  have h' : lA X.K W tk σ H (fun zs H2 => zs.length = ks.length ∧ lSp X.K tsp (pick l [] [] zs) H2 Q (WE W σ)) :=
    lA_then hkw.mono hd sl h (fun _ _ _ _ h => h) fun zs S2 us H2 I2 ⟨_, l2, q2⟩ hd2 s2 sl2 rz =>
      ⟨by rw [rz.len]; exact l2, L, F', S2, I2, _, hd2, pick_rep (xs := []) (vs := []) l (show RepL X.K I2 [] [] from rfl) (show RepL X.K I2 [] [] from rfl) rz, mt _ _ _ _ _ _ (dnV_up s2) (dnX_up s2) q2⟩
  refine wpAny_Call_Name_kw (ld_glob I hg g ?_ hdb)
  refine PySem.W.callWith_KW0 (h₀ := X.base) I.ok.mod.kin F.kp hall ?_ hpl
  refine thn (hkw.pe.run pos pins s σ H _ I h') fun ws s2 ⟨zs, H2, I2, rz, l2, q2⟩ => ⟨I2.kIn, ?_⟩
  rw [hks]
  exact run_fnK (us := []) (vs := []) (E := WE W) O hr kb (passAt tk' σ) I2 .nil rz rfl l2 q2
end
/-! ### a constant of a class: C.f -/
structure CvF (K : PySem.W.Frag) (C : Addr) (f : Str) (t : Tr) : Prop where
  ex : ∃ mc v u, CRead K C mc ∧ CVal K C mc f v u ∧ ∀ I, Rep K I t v
def uCv (C : Addr) (t : Tr) (te : UE) : UE := fun ρ S Q X => te ρ S (fun x S1 => x = .ref C ∧ Q t S1) X
theorem e_cval {X : Cx} {W : WX} {e : Expr} {te : UE} {pos : Pos} {f : Str} {C : Addr} {t : Tr} {K : PySem.W.Frag} (hk : X.K = K) (he : TPE X W e te) (c : CvF K C f t) (hb : attributeBase e f X.env (eval e X.env) = eval e X.env := by rfl) : TPE X W (.Attribute e f pos) (uCv C t te) := by
  subst hk
  obtain ⟨mc, v, u, r, k, q⟩ := c.ex
  refine ⟨wkE (pe_cval he.pe hb) fun σ H R ⟨L, F, S, I, ρ, hd, sl, h⟩ => lE_then he.mono hd sl h (fun _ _ _ _ h => h) fun x S1 w H1 I1 ⟨e1, h1⟩ hd1 s1 sl1 rw_ => ?_, fun ρ S Q Q' X X' hQ hX h => he.mono _ _ _ _ _ _ (fun x S1 ⟨e, h⟩ => ⟨e, hQ _ _ h⟩) hX h⟩
  subst e1
  cases rw_
  exact ⟨C, mc, v, u, rfl, r, k, h1 v H1 I1 hd1 s1 (q I1)⟩
/-! ### upper -/
def gUpper (x : Tr) (ys : List Tr) (z : Tr) : Prop := match x, ys with
  | .str a, [] => a.length ≤ 5592405 ∧ z = .str (Txt.upper a)
  | _, _ => False
theorem m_upper {K : PySem.W.Frag} : MtT K (fun x xs H Q => ∃ a, x = .str a ∧ xs = [] ∧ a.length ≤ 5592405 ∧ Q (.str (Txt.upper a)) H) gUpper := by
  intro L F H S I x ys z v vs R hd rx ry hg k
  unfold gUpper at hg
  split at hg
  · rename_i a e1 e2
    obtain ⟨c, rfl⟩ := hg
    cases vw_eq_str hd rx e1
    have : ys = [] := List.map_eq_nil_iff.mp e2
    subst this
    cases ry
    exact ⟨a, rfl, rfl, c, k _ H I hd (Same.refl _) rfl⟩
  · exact hg.elim
/-! ### a list repeated -/
def gRep (x y z : Tr) : Prop := match x, y with
  | .lst xs, .int k => -(2 ^ 63) ≤ k ∧ k < 2 ^ 63 ∧ xs.length * k.toNat ≤ sizeLine ∧ z = .lst (List.replicate k.toNat xs).flatten
  | _, _ => False
theorem rep_flat {K : PySem.W.Frag} {I : Hp} {xs : List Tr} {vs : List V} (h : RepL K I xs vs) : ∀ n : Nat, RepL K I (List.replicate n xs).flatten (List.replicate n vs).flatten
  | 0 => rfl
  | n + 1 => by
    rw [List.replicate_succ, List.replicate_succ, List.flatten_cons, List.flatten_cons]
    exact h.app (rep_flat h n)
theorem o_rep {K : PySem.W.Frag} : OpT K rRep gRep := by
  intro L F H S I x y z v w R hd rx ry hg k
  unfold gRep at hg
  split at hg
  · rename_i xs n e1 e2
    obtain ⟨a, vs, rfl, h1, h2⟩ := vw_lst hd rx e1
    cases vw_eq_int hd ry e2
    obtain ⟨c1, c2, c3, rfl⟩ := hg
    exact ⟨a, n, vs, rfl, rfl, h1, c1, c2, by rw [h2.len]; exact c3, fun p np => k _ _ _ (hd.imm np) (upd_sub (hd.freeI np)) ⟨p, _, rfl, upd_same, (rep_flat h2 _).mono (upd_sub (hd.freeI np))⟩⟩
  · exact hg.elim
/-! ### x, y, .. = a list -/
def uAsgL (ps : List Pat) (te : UE) : US := fun D X ρ S => te ρ S (fun x S1 => ∃ xs, asL (vw S1 x) = some xs ∧ ∃ ρ2, patsR ps xs ρ = some ρ2 ∧ D.nx ρ2 S1) (atR X ρ)
theorem s_asgL {X : Cx} {W : WX} {e : Expr} {te : UE} {es : List Expr} {k : Nat} {pk pos : Pos} (ps : List Pat) (he : TPE X W e te) (hg : PG X (.Tuple es k pk) (gUnl X.K ps.length (gPats X.K ps))) (hs : swapsWithSole [.Tuple es k pk] e pos.line X.env = pure false := by rfl) (hw : swappedStores [.Tuple es k pk] e X.env = pure none := by rfl)
    (h1 : (assignEach [.Tuple es k pk] X.env).map (·.2) = [assign (.Tuple es k pk) X.env] := by rfl) : TPS X W (.Assign [.Tuple es k pk] e pos) (uAsgL ps te) :=
  ⟨wkS (ps_asg he.pe hg hs hw h1) fun D σ H ⟨L, F, S, I, ρ, hd, sl, h⟩ => lE_then he.mono hd sl h (dnXS_at sl) fun y S1 v H1 I1 ⟨xs, ex, ρ2, e2, q⟩ hd1 s1 sl1 r => by
    obtain ⟨a, vs, rfl, h1, h2⟩ := asL_sq hd1 r ex
    exact ⟨a, vs, rfl, h1, by rw [h2.len, gPats_len (K := X.K) (L := L) (F := F) (H := H1) (I := I1) (S := S1) ps e2], gPats_run hd1 ps h2 sl1 e2 fun σ2 sl2 _ => q σ2 H1 I1 hd1 s1 sl2⟩,
   fun D D' X X' ρ S hD hX h => he.mono _ _ _ _ _ _ (fun _ _ ⟨xs, ex, ρ2, e2, q⟩ => ⟨xs, ex, ρ2, e2, hD.1 _ _ q⟩) (fun _ _ _ _ q => hX _ _ _ _ _ q) h⟩
/-! ### x, y, z = e1, e2, e3 -/
def uPar3 (i j l : Nat) (ta : UA) : US := fun D X ρ S => ta ρ S (fun xs S1 => ∃ x y z, xs = [x, y, z] ∧ D.nx (((ρ.set i (some x)).set j (some y)).set l (some z)) S1) (atR X ρ)
theorem s_par3 {X : Cx} {W : WX} {st : Stmt} {es : List Expr} {i j l : Nat} {ta : UA} (ha : TPA X W es ta) (hp : PA X es (lA X.K W ta) → PS X st (tPar3 i j l (lA X.K W ta))) : TPS X W st (uPar3 i j l ta) :=
  ⟨wkS (hp ha.pe) fun D σ H ⟨L, F, S, I, ρ, hd, sl, h⟩ => lA_then ha.mono hd sl h (dnXS_at sl) fun xs S1 vs H1 I1 ⟨x, y, z, e, q⟩ hd1 s1 sl1 r => by
    subst e
    obtain ⟨v, ws, rfl, r1, r2⟩ := r
    obtain ⟨w, us, rfl, r2, r3⟩ := r2
    obtain ⟨u, us, rfl, r3, r4⟩ := r3
    cases r4
    exact ⟨v, w, u, rfl, q _ H1 I1 hd1 s1 (((sl1.set r1).set r2).set r3)⟩, fun D D' X X' ρ S hD hX h => ha.mono _ _ _ _ _ _ (fun _ _ ⟨x, y, z, e2, q⟩ => ⟨x, y, z, e2, hD.1 _ _ q⟩) (fun _ _ _ _ q => hX _ _ _ _ _ q) h⟩
end KQ
namespace KQ
open PySem PySem.Spec PyProof.Rows L2 TL KB
/-! ### a list comprehension whose step may raise (the hand layer has none) -/
section
variable {M : Model} {A : Around} {E : Value → Shared → Prop} {s : Shared} {env : Env}
/-- a note depends on the frame alone -/
theorem note_eq {e : Value} {n1 n2 : Env} (h : n1.frame = n2.frame) : noteFrame e n1 = noteFrame e n2 := by
  unfold noteFrame PySem.frameOf
  rw [h]
/-- how a comprehension's block may end; of an error: what the passing on in this frame gives -/
def endC (M : Model) (A : Around) (E : Value → Shared → Prop) (use : Option (Value → Sem Unit)) (Q : Value → Shared → Prop) (acc : Value) (C : Addr) (fr : Option Addr) : Result → Shared → Prop
  | .ok f, t => compPost M A E use Q acc C (.ok f) t
  | .error x, t => ∃ m, t.heap.Ns C m ∧ ∀ g, Heap.SameBut C t.heap g → ∀ ce : Env, ce.locals = C → ce.frame = fr →
      wpAny M A (passOn "comprehension.variables-let-go" x ce : Sem Value) (fun _ _ => False) E { t with heap := g }
theorem run_comp {e : Expr} {sc : Scope} {pos : Pos} {mk it0 : Sem Value} {g : Comprehension} {gs : List Comprehension} {cl : List (Str × Addr)} {use : Option (Value → Sem Unit)} {Q : Value → Shared → Prop}
    (h1 : clausesOf e = g :: gs) (h2 : ∀ x, foldedSetIterable g.iter env x = pure x) (h3 : closureFor sc env = pure cl)
    (h4 : sc.kind = .function) (h5 : ∀ x ∈ sc.names, x.2 = .local → sc.names.lookup x.1 = some .local)
    (h : wpAny M A it0 (fun x t1 => wpAny M A (pyIter x) (fun it t2 => wpAny M A mk (fun acc t3 =>
      wpAny M A (newFunctionEnv sc env.globals cl [] env.qual none .none (some env)) (fun ce t4 =>
        codeAny M A (.compStart e 0 it acc { ce with scope := relabel sc env }) (endC M A E use Q acc ce.locals ce.frame) t4) E t3) E t2) E t1) E s) :
    wpAny M A (comprehension e sc env pos mk false it0 use) Q E s := by
  unfold comprehension
  rw [h3, h1]
  refine wpAny_bind (wpAny_mono h (fun x t1 k1 => ?_) fun _ _ q => q)
  refine wpAny_bind (wpAny_standAt (wpAny_bind (wpAny_of_eq (h2 x) (wpAny_bind (wpAny_holding ?_)))))
  refine wpAny_mono k1 (fun it t2 k2 => ?_) fun _ _ q => q
  refine wpAny_standIf (wpAny_bind (wpAny_mono k2 (fun acc t3 k3 => ?_) fun _ _ q => q))
  refine wpAny_bind (wpAny_pure (wpAny_bind (wpAny_mono k3 (fun ce t4 k4 => ?_) fun _ _ q => q)))
  dsimp only
  have kn : ∀ x : Str × NameKind, x ∈ sc.names → x.2 = .local → Env.kindOf { ce with scope := relabel sc env } x.1 = some .local := fun x hx hl => lookup_relabel_local (h5 x hx hl)
  have ka : ∀ x ∈ (sc.names.filter fun x => (x.2 == .local || x.2 == .cell) && x.1 != (".0" : Str)).reverse, x.2 = .local → Env.kindOf { ce with scope := relabel sc env } x.1 = some .local :=
    fun x hx => kn x (List.mem_filter.mp (List.mem_reverse.mp hx)).1
  have kb : ∀ x ∈ (sc.names.filter fun x => (x.2 == .local || x.2 == .cell) && x.1 != (".0" : Str)).reverse.drop 1 ++ (sc.names.filter fun x => (x.2 == .local || x.2 == .cell) && x.1 != (".0" : Str)).reverse.take 1, x.2 = .local → Env.kindOf { ce with scope := relabel sc env } x.1 = some .local := fun x hx =>
    (List.mem_append.mp hx).elim (fun z => ka x (List.mem_of_mem_drop z)) fun z => ka x (List.mem_of_mem_take z)
  refine wpAny_holding (wpAny_bind (wpAny_attempt (wpAny_holding (wpAny_run (codeAny_mono k4 fun r t5 k5 => ?_)))))
  match r, use, k5 with
  | .ok f, none, ⟨m, n5, q5⟩ =>
    refine wpAny_bind (wpAny_holding ?_)
    exact wpAny_comp_letGo (cenv := { ce with scope := relabel sc env }) h4 _ t5 m ka n5 fun g m' _ sb => wpAny_pure (q5 g sb)
  | .ok f, some u, q5 =>
    refine wpAny_bind (wpAny_rule (wpAny_bind (wpAny_holding (wpAny_mono q5 (fun _ t6 q6 => ?_) fun _ _ q => q))))
    obtain ⟨m, n6, q7⟩ := q6
    refine wpAny_bind (wpAny_comp_letGo (cenv := { ce with scope := relabel sc env }) h4 _ t6 m kb n6 ?_)
    exact fun g m' _ sb => wpAny_pure (q7 g sb)
  | .error x, some u, ⟨m, n5, q5⟩ =>
    refine wpAny_bind (wpAny_holding ?_)
    refine wpAny_comp_letGo (cenv := { ce with scope := relabel sc env }) h4 _ t5 m ka n5 fun g m' _ sb => ?_
    exact wpAny_mono (q5 g sb _ rfl rfl) (fun _ _ z => z.elim) fun _ _ q => q
  | .error x, none, ⟨m, n5, q5⟩ =>
    refine wpAny_bind (wpAny_holding ?_)
    refine wpAny_comp_letGo (cenv := { ce with scope := relabel sc env }) h4 _ t5 m ka n5 fun g m' _ sb => ?_
    exact wpAny_mono (q5 g sb _ rfl rfl) (fun _ _ z => z.elim) fun _ _ q => q
end
section
variable {M : Model} {A : Around} {E : Value → Shared → Prop} {s : Shared} {Z : Obj → Prop} {base : Heap} {env : Env} {outer l : List Env} {L e : Addr}
open HandSPX in
/-- a frame notes an exception whose flight is not its own -/
theorem look_any {fl : Value} {Q : Unit → Shared → Prop} (hZ : Steady Z) (hfr : A.frames = some (env :: outer)) (hf : env.frame = some L) (nf : (fl == rawInt L) = false)
    (hk : base.StaysIn s.heap) (hn : base.get? e = none) (hl : s.heap.FunFrames base (env :: outer)) (tr : TracedZ s.heap base e Z fl)
    (hQ : ∀ g, HeldZ base (env :: outer) e Z L g → s.heap.UpToSlots g → Q () { s with heap := g }) : wpAny M A (noteFrame (.ref e) env) Q E s := by
  obtain ⟨o1, xs, T, o2, ys, k1, k2, k3, k4, k5, k6, k7, k8, k9⟩ := tr
  have lx := (Array.getElem?_eq_some_iff.mp k4).1
  have ly := (Array.getElem?_eq_some_iff.mp k9).1
  unfold noteFrame
  simp only [hf]
  refine wpAny_bind (wpAny_field k1 k3 k4 ?_)
  rw [if_pos (show (Value.ref T != Value.none) = true by simp)]
  refine wpAny_bind (wpAny_field k7 k8 k9 ?_)
  rw [nf, if_neg (by decide)]
  refine wpAny_bind (wpAny_setField k7 k8 ly ?_)
  have off : ∀ b, b ≠ T → (s.heap.update T (Obj.mapFields (·.setIfInBounds 3 Value.none))).get? b = s.heap.get? b :=
    fun b hb => Heap.get?_update_other _ _ fun z => hb z.symm
  have pl : ∀ b o, s.heap.get? b = some o → (∀ vs, o.data ≠ .fields vs) → b ≠ T := fun b o g1 g2 z => by
    subst z
    rw [k7] at g1
    cases g1
    exact g2 ys k8
  refine wpAny_entryZ hZ hfr (hl.of_keeps fun b o g1 g2 => ⟨o, by rw [off b (pl b o g1 g2)]; exact g1, rfl⟩) hf (by rw [off e fun z => k6 z.symm]; exact k1) (fun b o g1 => ?_) hn k3 lx k2 fun g n => ?_
  · rw [off b fun z => by rw [z, k5] at g1; cases g1]
    exact hk b o g1
  · obtain ⟨n1, n2, n3, n4⟩ := n
    exact hQ g ⟨n1, hn, n2, n3⟩ fun b o g1 g2 => n4 b o (by rw [off b (pl b o g1 g2)]; exact g1) g2
end
theorem raw_ne {a b : Addr} (h : a ≠ b) : (rawInt a == rawInt b) = false := by
  unfold rawInt
  simp only [beq_eq_false_iff_ne, ne_eq]
  intro z
  injection z with z
  exact h (Int.ofNat_inj.mp z)
section
variable {X : Cx} {pins : List (Addr × Obj)} {σ : L2.St} {H : Hp}
open HandSPX in
/-- an exception leaves a block of ours -/
theorem takes_blk {Wo : WX} {s3 : Shared} {sc : Scope} {fp : List Addr} {cl : List (Str × Addr)} {use : Option (Value → Sem Unit)} {Qf : Value → Shared → Prop} {acc : Value} {R0 : Value → Shared → Prop}
    (st : X.stack = X.env :: X.outer) (fr : X.env.frame = some X.env.locals) (tk : L2.Takes X Wo) (I3 : Inv X pins σ H s3) (f3 : ∀ b ∈ fp, FpOk X pins H b)
    (hR : ∀ u t, endC (model X.prog X.w) X.A X.xe use Qf acc s3.heap.objs.size X.env.frame (.error u) t → R0 u t) :
    L2.Takes ((X.blk s3 H sc (compEnvC sc cl s3.heap.objs.size X.env) fp).wish (notedBy (model X.prog X.w) X.A (compEnvC sc cl s3.heap.objs.size X.env) R0)) fun c d _ G => Wo c d σ G := by
  rintro u t ⟨a, B, sI, pin2, σ2, G, cls, d, rfl, I, nb, up, sky, na, os, ag, w⟩
  generalize hC : s3.heap.objs.size = C at I sky hR ⊢
  have F0 : X.A.frames = some (X.env :: X.outer) := by rw [I3.ok.frames, st]
  have eL : X.env.locals ≠ C := fun z => absurd I3.lt (by rw [z, hC]; exact Nat.lt_irrefl _)
  have nG : G C = none := I.free
  have fC : FpOk X pins G C := I3.fpOk (Nat.le_of_eq hC) nG
  have I7 : Inv X pins σ G sI := I3.call' (ch := fp) I.os I.base I.hok I.bare fun b hb => ⟨(f3 b hb).2.2.2.1, (f3 b hb).2.1, (f3 b hb).2.2.2.2.1, (f3 b hb).2.2.2.2.2⟩
  obtain ⟨m, hm, _⟩ := I.loc
  have hm : sI.heap.Ns C m := hm
  have nb : ∀ b o, sI.heap.get? b = some o → b ∉ frs X.stack → B.get? b = some o := nb
  have cF : C ∉ frs X.stack := fun z => by
    rw [st] at z
    rcases List.mem_cons.mp (show C ∈ X.env.locals :: frs X.outer by unfold frs at z ⊢; rw [List.filterMap_cons, fr] at z; exact z) with z | z
    · exact eL z.symm
    · exact fC.2.2.1 z
  -- what the frame's note leaves
  have fin : ∀ g, HeldZ B (X.env :: X.outer) a (Zc cls d) X.env.locals g → t.heap.UpToSlots g → R0 (.ref a) { t with heap := g } := fun g hg u1 => by
    refine hR _ _ ?_
    obtain ⟨g1, g2, g3, g4⟩ := hg
    obtain ⟨o, es, ep, ho, hr⟩ := hm
    have oC : g.get? C = some o := g1 C o (nb C o ho cF)
    refine ⟨m, ⟨o, es, ep, oC, hr⟩, fun g' sb ce e1 e2 => ?_⟩
    obtain ⟨B', b1, b2⟩ := restrict B fun b => decide (b ≠ C)
    obtain ⟨S', s1, s2⟩ := restrict sI.heap fun b => decide (b ≠ C)
    have c0 : ∀ b o, B'.get? b = some o → b ≠ C ∧ B.get? b = some o := fun b o q => by
      by_cases z : b = C
      · rw [b2 b (by simpa using z)] at q; cases q
      · rw [b1 b (by simpa using z)] at q; exact ⟨z, q⟩
    have c1 : ∀ b o, S'.get? b = some o → b ≠ C ∧ sI.heap.get? b = some o := fun b o q => by
      by_cases z : b = C
      · rw [s2 b (by simpa using z)] at q; cases q
      · rw [s1 b (by simpa using z)] at q; exact ⟨z, q⟩
    have keep : B'.StaysIn g' := fun b o q => by
      obtain ⟨z, q⟩ := c0 b o q
      rw [sb.2 b z]
      exact g1 b o q
    have hl : g'.FunFrames B' X.stack := by
      rw [st]
      have nl : ∀ v ∈ frs (X.env :: X.outer), v ≠ C := fun v hv z => cF (by rw [st, ← z]; exact hv)
      revert g3 nl
      generalize X.env :: X.outer = l
      intro g3 nl
      induction l with
      | nil => trivial
      | cons v l ih =>
        obtain ⟨q1, ⟨f, o, q2, q3, q4, q5⟩, q6⟩ := g3
        have nf : f ≠ C := nl f (List.mem_filterMap.mpr ⟨v, List.mem_cons_self, q2⟩)
        refine ⟨q1, ⟨f, o, q2, ?_, by rw [sb.2 f nf]; exact q4, q5⟩, ih q6 fun x hx => nl x ?_⟩
        · rw [b1 f (by simpa using nf)]; exact q3
        · obtain ⟨y, h1, h2⟩ := List.mem_filterMap.mp hx
          exact List.mem_filterMap.mpr ⟨y, List.mem_cons_of_mem _ h1, h2⟩
    have dC : ∀ b o vs, g.get? b = some o → o.data = .fields vs → b ≠ C := fun b o vs q1 q2 z => by
      subst z
      rw [oC] at q1
      cases q1
      rw [hr.1] at q2; cases q2
    have tr : TracedZ g' B' a (Zc cls d) (rawInt X.env.locals) := by
      obtain ⟨o1, xs, T, o2, ys, k1, k2, k3, k4, k5, k6, k7, k8, k9⟩ := g4
      have n1 := dC a o1 xs k1 k3
      have n2 := dC T o2 ys k7 k8
      exact ⟨o1, xs, T, o2, ys, by rw [sb.2 a n1]; exact k1, k2, k3, k4, by rw [b1 T (by simpa using n2)]; exact k5, k6, by rw [sb.2 T n2]; exact k7, k8, k9⟩
    have naB : B'.get? a = none := by
      by_cases z : a = C
      · exact b2 a (by simpa using z)
      · rw [b1 a (by simpa using z)]; exact g2
    obtain ⟨o1, xs, T, o2, ys, k1, k2, k3, k4, _⟩ := id tr
    unfold PySem.passOn
    refine wpAny_bind (wpAny_field k1 k3 k4 ?_)
    rw [if_neg (show ¬ ((Value.ref T == Value.none) = true) by simp)]
    rw [e2, fr]
    have out : wpAny (model X.prog X.w) X.A (setFlight (.ref a) (some X.env.locals)) (fun _ t4 => wpAny (model X.prog X.w) X.A (throw (.ref a) : Sem Value) (fun _ _ => False) X.xe t4) X.xe { t with heap := g' } := by
      refine setFlight_anyZ keep hl tr fun g5 h1 h2 h3 h4 => wpAny_throw (tk _ _ ?_)
      have I8 := I7.turned (t' := sI.toks) (h' := S') (it := C) (fun b o hb q => by rw [s1 b (by simpa using hb)]; exact q) fC.1 fC.2.1 fC.2.2.2.1 fC.2.2.2.2.1 fC.2.2.2.2.2
      refine ⟨a, B', { sI with heap := S', toks := sI.toks }, pins, σ, G, cls, d, rfl, I8, fun b o q hb => ?_, fun b o q nf => ?_, .inr (.inr ⟨h1, naB, h2, h3⟩), na, os, ag, w⟩
      · obtain ⟨z, q⟩ := c1 b o q
        rw [b1 b (by simpa using z)]
        exact nb b o q hb
      · obtain ⟨z, q⟩ := c1 b o q
        obtain ⟨x1, q1⟩ := up b o q nf
        obtain ⟨x2, q2⟩ := u1 b _ q1 nf
        have q3 : g'.get? b = _ := (sb.2 b z).trans q2
        obtain ⟨x3, q4⟩ := h4 b _ q3 nf
        exact ⟨x3, q4⟩
    first
      | exact wpAny_bind (wpAny_pure (wpAny_bind out))
      | exact wpAny_bind out
  show wpAny _ _ (noteFrame (.ref a) (compEnvC sc cl C X.env)) _ _ t
  rw [note_eq (show (compEnvC sc cl C X.env).frame = X.env.frame from rfl)]
  have sky : Sky B (X.env :: X.outer) a (Zc cls d) C t.heap := by rw [← st]; exact sky
  rcases sky with ⟨hB, hn, hl, oe, vs, he, hz, hd, h1⟩ | fl | hh
  · exact look_newZ Zc.steady F0 hl fr he hB hn hd h1 hz fin
  · exact looks_onZ Zc.steady F0 fr fl fin
  · exact look_any Zc.steady F0 fr (raw_ne fun z => eL z.symm) hh.1 hh.2.1 hh.2.2.1 hh.2.2.2 fin
end
section
variable {X : Cx}
/-- what the step may raise is wished as the block's beginning stands -/
def tLcX (wi : TI) (g : TG) (tt : TT) (te : WX → TE) (Wo : WX) (vs : List Nat) : TE := fun σ H Q => wi σ H fun J H1 => ∀ D, H1 D = none → ∃ P : Nat → Nat → Hp → Prop, (∃ m, P 0 m (upd H1 D (.lst []))) ∧ ∀ i m H, P i m H →
  (J.stop i H ∧ Q (.ref D) H) ∨ (J.go i H ∧ ∃ Nx : Hp → Prop, (∀ H', Nx H' → ∃ m', m' < m ∧ P (i + 1) m' H') ∧ ∀ x H', J.yld i H x H' → g x (wipe σ vs) H' fun σ2 H2 => wipe σ2 vs = wipe σ vs ∧ tt σ2 H2 fun b H3 =>
    if b = true then te (fun c d _ G => Wo c d σ G) σ2 H3 fun y H4 => ∃ acc, H4 D = some (.lst acc) ∧ acc.length < sizeLine ∧ Nx (upd H4 D (.lst (acc ++ [y]))) else Nx H3)
theorem lcX_core {pins : List (Addr × Obj)} {s : Shared} {σ : L2.St} {H : Hp} {Q : VK} {elt tg iter : Expr} {ifs : List Expr} {scope : Scope} {own : List (Str × Nat)} {pos pos' : Pos} {wi : TI} {g : TG} {tt : TT} {te : WX → TE} {Wo : WX} {use : Option (Value → Sem Unit)} {Qf : Value → Shared → Prop}
    (hc : X.calm = true) (hN : X.N.Nodup) (st : X.stack = X.env :: X.outer) (fr : X.env.frame = some X.env.locals) (tk : L2.Takes X Wo) (I : Inv X pins σ H s) (hi : PI X tg iter wi) (ok : BlkOk X.N X.env.scope scope own)
    (hg : ∀ (s : Shared) (H : Hp) (C : Addr) (cl : List (Str × Addr)) (fp : List Addr), PG (X.blk s H scope (compEnvC scope cl C X.env) fp) tg g)
    (ht : ∀ (s : Shared) (H : Hp) (C : Addr) (cl : List (Str × Addr)) (fp : List Addr), PTs (X.blk s H scope (compEnvC scope cl C X.env) fp) ifs tt)
    (he : ∀ (s : Shared) (H : Hp) (C : Addr) (cl : List (Str × Addr)) (fp : List Addr) (xe : Value → Shared → Prop) (W : WX), L2.Takes ((X.blk s H scope (compEnvC scope cl C X.env) fp).wish xe) W → PE ((X.blk s H scope (compEnvC scope cl C X.env) fp).wish xe) elt (te W))
    (hs : ∀ x, foldedSetIterable iter X.env x = pure x) (h : tLcX wi g tt te Wo (own.map (·.2)) σ H Q)
    (hRR : ∀ D C s' m H', Inv X pins σ H' s' → Q (.ref D) H' → s'.heap.Ns C m → FpOk X pins H' C → compPost (model X.prog X.w) X.A X.xe use Qf (.ref D) C (.ok .next) s') :
    wpAny (model X.prog X.w) X.A (comprehension (.ListComp elt [⟨tg, iter, ifs, 0⟩] scope pos) scope X.env pos' (newList []) false (eval iter X.env) use) Qf X.xe s := by
  have fre : ∀ y ∈ scope.names, y.2 = .free → ∃ c, X.env.cells.lookup y.1 = some c := fun y hy e =>
    (ok.free y hy e).elim (fun k => I.ok.has _ (.inl k)) fun k => I.ok.has _ (.inr k)
  refine run_comp (use := use) rfl hs (closure_ok fre) ok.kind (fun y hy e => by rw [ok.uniq y hy, e]) ?_
  refine thn (hi.run pins s σ H _ I h) fun xv s1 hx => thn hx fun itv s2 h2 => ?_
  obtain ⟨it, fp, tn, J, H2, e, I2, T, w2, f2, q⟩ := h2
  subst e
  refine wpAny_newObj_type (newEnv_comp ?_) (Nat.zero_le _)
  generalize eD : s2.heap.objs.size = D
  obtain ⟨P, ⟨m0, p0⟩, turn⟩ := q D (I2.hok.fresh (Nat.le_of_eq eD))
  generalize e3 : ({ s2 with heap := s2.heap.push { cls := .type "list", data := .seq ([] : List Value).toArray } } : Shared) = s3
  have h3 : s3.heap = s2.heap.push { cls := .type "list", data := .seq ([] : List Value).toArray } := by rw [← e3]
  have I3 : Inv X pins σ (upd H2 D (.lst [])) s3 := by
    have k : ObjOk X.prog X.w (upd H2 D (.lst [])) (s2.heap.push { cls := .type "list", data := .seq ([] : List Value).toArray }) D (.lst []) :=
      ⟨Nat.zero_le _, [], 0, .nil, by rw [← eD]; exact Heap.get?_push_size _ rfl⟩
    have := I2.laid (t' := s2.toks) (fun b o e => Heap.get?_push_of_some _ e) (Nat.le_of_eq eD) k
    rw [← e3]
    exact this
  have f3 : ∀ b ∈ fp, FpOk X pins (upd H2 D (.lst [])) b ∧ b < s3.heap.objs.size := fun b hb => by
    obtain ⟨o, e, _⟩ := T.obj _ _ w2 b hb
    have lt := Heap.lt_size e
    have ne : b ≠ D := by rw [← eD]; exact Nat.ne_of_lt lt
    refine ⟨⟨?_, (f2 b hb).2⟩, ?_⟩
    · rw [upd_ne ne]; exact (f2 b hb).1
    · rw [h3, Heap.size_push]; exact Nat.lt_succ_of_lt lt
  have I4 := block_start I3 ok hN f3
  have pg := hg s3 (upd H2 D (.lst [])) s3.heap.objs.size (cellsFrom (s3.heap.objs.size + 1) scope.names (cloFrom X.env.cells scope.names [])) fp
  have pt := ht s3 (upd H2 D (.lst [])) s3.heap.objs.size (cellsFrom (s3.heap.objs.size + 1) scope.names (cloFrom X.env.cells scope.names [])) fp
  have pe := he s3 (upd H2 D (.lst [])) s3.heap.objs.size (cellsFrom (s3.heap.objs.size + 1) scope.names (cloFrom X.env.cells scope.names [])) fp
  have tb := fun (R0 : Value → Shared → Prop) => takes_blk (sc := scope) (fp := fp) (cl := cellsFrom (s3.heap.objs.size + 1) scope.names (cloFrom X.env.cells scope.names [])) (use := use) (Qf := Qf) (acc := .ref D) (R0 := R0) st fr tk I3 fun b hb => (f3 b hb).1
  show codeAny _ _ (.compStart (.ListComp elt [⟨tg, iter, ifs, 0⟩] scope pos) 0 (.ref it) (.ref D) (compEnvC scope (cellsFrom (s3.heap.objs.size + 1) scope.names (cloFrom X.env.cells scope.names [])) s3.heap.objs.size X.env))
    (endC (model X.prog X.w) X.A X.xe use Qf (.ref D) s3.heap.objs.size X.env.frame) { s3 with heap := pushCells (s3.heap.push { cls := .type "dict", data := .dict #[] }) scope.names }
  generalize ec : compEnvC scope (cellsFrom (s3.heap.objs.size + 1) scope.names (cloFrom X.env.cells scope.names [])) s3.heap.objs.size X.env = ce at I4 pg pt pe tb ⊢
  have cL : ce.locals = s3.heap.objs.size := by rw [← ec]; rfl
  have n3 : ∀ b ∈ fp, (upd H2 D (.lst [])) b = none := fun b hb => (f3 b hb).1.1
  generalize eH : upd H2 D (.lst []) = H3 at I3 I4 pg pt pe tb p0 n3 f3
  generalize e4 : ({ s3 with heap := pushCells (s3.heap.push { cls := .type "dict", data := .dict #[] }) scope.names } : Shared) = s4 at I4 ⊢
  have w3 : tn 0 s3.heap := T.keep _ _ _ w2 fun b _ o e => by
    rw [h3]
    exact Heap.get?_push_of_some _ e
  have w4 : tn 0 s4.heap := T.keep _ _ _ w3 fun b _ o e => by
    rw [← e4]
    exact pushCells_keeps _ _ _ _ (Heap.get?_push_of_some _ e)
  have stands : ∀ {σ' : L2.St} {H' : Hp} {s' : Shared}, Inv (X.blk s3 H3 scope ce fp) [] σ' H' s' → (∀ b ∈ fp, H' b = none) → ∀ b ∈ fp, FpOk (X.blk s3 H3 scope ce fp) [] H' b := fun {σ' H' s'} J' hn b hb => by
    refine ⟨hn b hb, (J'.ok.exf b hb).1, J'.ok.exfs b hb, .inl hb, fun x c e => (J'.ok.exf b hb).2 x c e, fun p hp => ?_⟩
    exact absurd (show p ∈ ([] : List (Addr × Obj)) ++ [] from hp) (by simp)
  have loop : codeAny (model X.prog X.w) X.A (.compLoop (.ListComp elt [⟨tg, iter, ifs, 0⟩] scope pos) 0 (.ref it) (.ref D) ce) (endC (model X.prog X.w) X.A X.xe use Qf (.ref D) s3.heap.objs.size X.env.frame) s4 := by
    refine compLoop_any (fun n s' => ∃ i H', Inv (X.blk s3 H3 scope ce fp) [] (wipe σ (own.map (·.2))) H' s' ∧ tn i s'.heap ∧ (∀ b ∈ fp, H' b = none) ∧ P i n H') ?_ m0 ⟨0, H3, I4, w4, n3, p0⟩
    rintro n s5 ⟨i, H5, I5, w5, n5, p5⟩
    rcases turn i n H5 p5 with ⟨stop, qq⟩ | ⟨go, Nx, hNx, step⟩
    · have td := T.done (X.blk s3 H3 scope ce fp) rfl rfl rfl hc i [] s5 _ H5 (fun _ _ => False) I5 (stands I5 n5) w5 stop
      refine thnF td fun r s6 ⟨hr, I6⟩ => ?_
      subst hr
      have I7 : Inv X pins σ H5 s6 := I3.call' (ch := fp) I6.os I6.base I6.hok I6.bare fun b hb =>
        let k := (f3 b hb).1
        ⟨k.2.2.2.1, k.2.1, k.2.2.2.2.1, k.2.2.2.2.2⟩
      obtain ⟨m, hn, _⟩ := I6.loc
      have hn : s6.heap.Ns ce.locals m := hn
      have nC : H5 ce.locals = none := I6.free
      rw [cL] at hn nC
      exact hRR D _ s6 m H5 I7 qq hn (I3.fpOk (Nat.le_refl _) nC)
    · have ti := T.item (X.blk s3 H3 scope ce fp) rfl rfl rfl hc i [] s5 _ H5 (fun _ _ => False) I5 (stands I5 n5) w5 go
      refine thnF ti fun r s6 ⟨u, hr, h6⟩ => ?_
      subst hr
      refine thnF h6 fun _ s7 ⟨x, H7, I7, r7, y7, w7, n7⟩ => ?_
      have K7 := I7.pinned (stands I7 n7) (T.obj _ _ w7)
      refine thnF (pg.run _ s7 _ H7 x u _ K7 r7 (step x H7 y7)) fun _ s8 ⟨σ8, H8, I8, hw8, q8⟩ => ?_
      refine thnF (pt.run _ s8 σ8 H8 _ I8 q8) fun b s9 ⟨H9, I9, q9⟩ => ?_
      have fin : ∀ {s' : Shared} {H' : Hp}, Inv (X.blk s3 H3 scope ce fp) ([] ++ pinsAt fp s7.heap) σ8 H' s' → Nx H' → ∃ m, m < n ∧ ∃ i H', Inv (X.blk s3 H3 scope ce fp) [] (wipe σ (own.map (·.2))) H' s' ∧ tn i s'.heap ∧ (∀ b ∈ fp, H' b = none) ∧ P i m H' := fun {s' H'} J' nx => by
        obtain ⟨m', hm, p'⟩ := hNx H' nx
        have pin : ∀ b ∈ fp, ∀ o, s7.heap.get? b = some o → s'.heap.get? b = some o ∧ H' b = none := fun b hb o e => by
          have z := J'.pin (b, o) (List.mem_append_right _ (List.mem_append_right _ (mem_pinsAt hb e)))
          exact ⟨z.1, z.2.1⟩
        have hl : (wipe σ (own.map (·.2))).length = σ8.length := by rw [← hw8, wipe_length]
        refine ⟨m', hm, i + 1, H', (J'.unpinned (pins := [])).weak hl (fun j v e => ?_), ?_, fun b hb => ?_, p'⟩
        · rw [← hw8] at e; exact (wipe_some e).1
        · exact T.keep _ _ _ w7 fun b hb o e => (pin b hb o e).1
        · obtain ⟨o, e, _⟩ := T.obj _ _ w7 b hb
          exact (pin b hb o e).2
      cases b with
      | false =>
        rw [if_neg Bool.false_ne_true] at q9 ⊢
        exact fin I9 q9
      | true =>
        rw [if_pos rfl] at q9 ⊢
        have pe' := pe _ _ (tb (fun e s' => endC (model X.prog X.w) X.A X.xe use Qf (.ref D) s3.heap.objs.size X.env.frame (.error e) s') fun _ _ z => z)
        refine thn (pe'.run _ s9 σ8 H9 _ (I9.wish _) q9) fun z s10 ⟨yv, H10, I10, r10, acc, hD10, hz10, nx⟩ => ?_
        exact app_ok (X := X.blk s3 H3 scope ce fp) I10.unwish hD10 hz10 r10 fun s11 I11 => fin I11 nx
  exact codeAny_compStart_list loop (T.self X.A 0 _ _ _ w4 loop)
theorem pe_lcX {elt tg iter : Expr} {ifs : List Expr} {scope : Scope} {own : List (Str × Nat)} {pos : Pos} {wi : TI} {g : TG} {tt : TT} {te : WX → TE} {Wo : WX} (hc : X.calm = true) (hN : X.N.Nodup) (st : X.stack = X.env :: X.outer) (fr : X.env.frame = some X.env.locals) (tk : L2.Takes X Wo) (hi : PI X tg iter wi) (ok : BlkOk X.N X.env.scope scope own)
    (hg : ∀ (s : Shared) (H : Hp) (C : Addr) (cl : List (Str × Addr)) (fp : List Addr), PG (X.blk s H scope (compEnvC scope cl C X.env) fp) tg g)
    (ht : ∀ (s : Shared) (H : Hp) (C : Addr) (cl : List (Str × Addr)) (fp : List Addr), PTs (X.blk s H scope (compEnvC scope cl C X.env) fp) ifs tt)
    (he : ∀ (s : Shared) (H : Hp) (C : Addr) (cl : List (Str × Addr)) (fp : List Addr) (xe : Value → Shared → Prop) (W : WX), L2.Takes ((X.blk s H scope (compEnvC scope cl C X.env) fp).wish xe) W → PE ((X.blk s H scope (compEnvC scope cl C X.env) fp).wish xe) elt (te W))
    (hs : ∀ x, foldedSetIterable iter X.env x = pure x := by intro _; rfl) : PE X (.ListComp elt [⟨tg, iter, ifs, 0⟩] scope pos) (tLcX wi g tt te Wo (own.map (·.2))) := by
  refine ⟨fun pins s σ H Q I h => ?_⟩
  rw [eval_ListComp]
  refine lcX_core hc hN st fr tk I hi ok hg ht he hs h fun D C s' m H' I' q hn f => ⟨m, hn, fun h2 sb => ?_⟩
  obtain ⟨a0, a1, _, a3, a4, a5⟩ := f
  exact ⟨.ref D, H', I'.turned (t' := s'.toks) (fun b o hb e => by rw [sb.2 b hb]; exact e) a0 a1 a3 a4 a5, rfl, q⟩
end
section
variable {X : Cx}
/-- name = [..] on one line -/
theorem ps_setLcX {i : Nat} {y : Str} {py : Pos} {elt tg iter : Expr} {ifs : List Expr} {scope : Scope} {own : List (Str × Nat)} {pos spos : Pos} {wi : TI} {g : TG} {tt : TT} {te : WX → TE} {Wo : WX} (hc : X.calm = true) (hN : X.N.Nodup) (hy : X.N[i]? = some y) (hyl : X.env.scope.names.lookup y = some .local)
    (hsw : swapsWith (.ListComp elt [⟨tg, iter, ifs, 0⟩] scope pos) (some (.Name y py)) spos.line X.env = pure true) (st : X.stack = X.env :: X.outer) (fr : X.env.frame = some X.env.locals) (tk : L2.Takes X Wo) (hi : PI X tg iter wi) (ok : BlkOk X.N X.env.scope scope own)
    (hg : ∀ (s : Shared) (H : Hp) (C : Addr) (cl : List (Str × Addr)) (fp : List Addr), PG (X.blk s H scope (compEnvC scope cl C X.env) fp) tg g)
    (ht : ∀ (s : Shared) (H : Hp) (C : Addr) (cl : List (Str × Addr)) (fp : List Addr), PTs (X.blk s H scope (compEnvC scope cl C X.env) fp) ifs tt)
    (he : ∀ (s : Shared) (H : Hp) (C : Addr) (cl : List (Str × Addr)) (fp : List Addr) (xe : Value → Shared → Prop) (W : WX), L2.Takes ((X.blk s H scope (compEnvC scope cl C X.env) fp).wish xe) W → PE ((X.blk s H scope (compEnvC scope cl C X.env) fp).wish xe) elt (te W))
    (hs : ∀ x, foldedSetIterable iter X.env x = pure x := by intro _; rfl) : PS X (.Assign [.Name y py] (.ListComp elt [⟨tg, iter, ifs, 0⟩] scope pos) spos) (tAsg (tLcX wi g tt te Wo (own.map (·.2))) (gName i)) := by
  refine ⟨fun pins s σ H D I h => ?_⟩
  have h : tLcX wi g tt te Wo (own.map (·.2)) σ H (fun x H1 => gName i x σ H1 D.nx) := h
  rw [exec_Assign_Name_used _ _ _ _ hsw]
  refine wpAny_bind (wpAny_standAt (wpAny_bind ?_))
  show wpAny _ X.A (do let _ ← comprehension (.ListComp elt [⟨tg, iter, ifs, 0⟩] scope pos) scope X.env (firstIterPos [⟨tg, iter, ifs, 0⟩] pos) (newList []) false (eval iter X.env) (some (assign (.Name y py) X.env))) _ _ s
  have go := lcX_core (Qf := fun _ t => SP X pins D .next t) (use := some (assign (.Name y py) X.env)) (pos' := firstIterPos [⟨tg, iter, ifs, 0⟩] pos) (pos := pos) hc hN st fr tk I hi ok hg ht he hs h fun L C t m G I' q hn f => by
    show wpAny _ _ (assign (.Name y py) X.env (.ref L)) _ _ _
    refine wpAny_assign_Name (store_ok2 (v := V.ref L) I' hN hy (.inl hyl) rfl (fun t2 I2 ⟨a, sb, ha⟩ => ?_) (.inr hyl))
    obtain ⟨b0, b1, _, b3, b4, b5⟩ := f
    have ne : C ≠ a := ha.elim (fun z => by rw [z]; exact b1) fun z e => b4 y a z e.symm
    exact ⟨m, hn.sameBut sb ne, fun h3 sb3 => ⟨_, G, I2.turned (t' := t2.toks) (fun b o hb e => by rw [sb3.2 b hb]; exact e) b0 b1 b3 b4 b5, q⟩⟩
  exact wpAny_bind (thn go fun _ t hq => wpAny_pure (wpAny_pure hq))
end
/-! ### the same over trees -/
def uLcXL (ok : Sto → Prop) (p : Pat) (tt : UT) (te : UE) (ρ : Rho) (Q : QV) (X : QX) : List Tr → List Tr → Sto → Prop
  | [], acc, S => ok S ∧ Q (.lst acc) S
  | x :: xs, acc, S => ok S ∧ ∃ ρ2, patR p x ρ = some ρ2 ∧ tt ρ2 S (fun b S3 => if b = true then te ρ2 S3 (fun y S4 => acc.length < sizeLine ∧ uLcXL ok p tt te ρ Q X xs (acc ++ [y]) S4) X else uLcXL ok p tt te ρ Q X xs acc S3) X0
def uLcX (ui : UI) (p : Pat) (tt : UT) (te : UE) (vs : List Nat) : UE := fun ρ S Q X => ui ρ S (fun wk S1 => uLcXL wk.ok p tt te (wipeR ρ vs) Q X wk.xs [] S1) X
theorem mono_lcXL {ok : Sto → Prop} {p : Pat} {tt : UT} {te : UE} {ρ : Rho} {Q Q' : QV} {X X' : QX} (mt : MonoT tt) (me : MonoE te) (hQ : ∀ y S, Q y S → Q' y S) (hX : XLe X X') : ∀ (xs acc : List Tr) (S : Sto), uLcXL ok p tt te ρ Q X xs acc S → uLcXL ok p tt te ρ Q' X' xs acc S
  | [], acc, S, h => ⟨h.1, hQ _ _ h.2⟩
  | x :: xs, acc, S, ⟨h1, ρ2, e, h⟩ => ⟨h1, ρ2, e, mt _ _ _ _ _ _ (fun b S3 q => by
      cases b with
      | true => rw [if_pos rfl] at q ⊢; exact me _ _ _ _ _ _ (fun y S4 ⟨z, q⟩ => ⟨z, mono_lcXL mt me hQ hX xs _ _ q⟩) hX q
      | false => rw [if_neg Bool.false_ne_true] at q ⊢; exact mono_lcXL mt me hQ hX xs _ _ q) (fun _ _ _ _ q => q) h⟩
theorem mono_lcX {ui : UI} {p : Pat} {tt : UT} {te : UE} {vs : List Nat} (mi : MonoI ui) (mt : MonoT tt) (me : MonoE te) : MonoE (uLcX ui p tt te vs) := fun ρ S Q Q' X X' hQ hX h => mi _ _ _ _ _ _ (fun wk S1 q => mono_lcXL mt me hQ hX _ _ _ q) hX h
/-- an exception's wish, seen from within the block -/
theorem dnX_in {K : PySem.W.Frag} {L : Lk} {F I0 I3 : Hp} {D : Addr} {o : HO} {Wo : WX} {σ σ2 : L2.St} (nF : F D = none) (e : Same I0 I3) : XLe (dnX K L F I0 Wo σ) (dnX K L (upd F D o) I3 (fun c d _ G => Wo c d σ G) σ2) := fun c fs xs S h d H' I' hd s' xd => by
  obtain ⟨vs, x1, x2, x3, x4, x5, x6⟩ := xd
  have nd : d ≠ D := fun z => by rw [z, upd_same] at x6; cases x6
  rw [upd_ne nd] at x6
  have iD : I' D = none := (hd.fra D _ upd_same).2
  exact h d H' (upd I' D o) (hd.unframe nF) ((e.trans s').trans (upd_sub iD)) ⟨vs, x1, x2, x3.mono (upd_sub iD), by rw [upd_ne nd]; exact x4, x5, x6⟩
theorem lcX_run {K : PySem.W.Frag} {L : Lk} {F H1 I0 I1 : Hp} {S1 : Sto} {ρ : Rho} {σ : L2.St} {wk : Walk} {p : Pat} {tt : UT} {te : UE} {vs : List Nat} {Q : VK} {Wo : WX} {J : It} {D : Addr} (mt : MonoT tt) (me : MonoE te) (hv : ∀ i ∈ p.slots, i ∈ vs) (hd : Hd K L F H1 S1 I1) (s0 : Same I0 I1) (sl : Slots K I1 σ ρ) (it : ItRep K L I1 J wk) (nD : H1 D = none)
    (h : uLcXL wk.ok p tt te (wipeR ρ vs) (dnV K L F I1 Q) (dnX K L F I0 Wo σ) wk.xs [] S1) : ∃ P : Nat → Nat → Hp → Prop, (∃ m, P 0 m (upd H1 D (.lst []))) ∧ ∀ i m H, P i m H →
      (J.stop i H ∧ Q (.ref D) H) ∨ (J.go i H ∧ ∃ Nx : Hp → Prop, (∀ H', Nx H' → ∃ m', m' < m ∧ P (i + 1) m' H') ∧ ∀ x H', J.yld i H x H' → gPat K p x (wipe σ vs) H' fun σ2 H2 => wipe σ2 vs = wipe σ vs ∧ lT K W0 tt σ2 H2 fun b H3 =>
        if b = true then lE K (fun c d _ G => Wo c d σ G) te σ2 H3 fun y H4 => ∃ acc, H4 D = some (.lst acc) ∧ acc.length < sizeLine ∧ Nx (upd H4 D (.lst (acc ++ [y]))) else Nx H3) := by
  have fD : F D = none := hd.freeF nD
  refine ⟨fun i m H => m = wk.xs.length - i ∧ i ≤ wk.xs.length ∧ ∃ acc accv S I', Hd K L (upd F D (.lst accv)) H S I' ∧ Same I1 I' ∧ RepL K I' acc accv ∧ uLcXL wk.ok p tt te (wipeR ρ vs) (dnV K L F I1 Q) (dnX K L F I0 Wo σ) (wk.xs.drop i) acc S,
    ⟨_, rfl, Nat.zero_le _, [], [], S1, I1, hd.frame nD, Same.refl _, rfl, h⟩, ?_⟩
  rintro i m H ⟨rfl, hi, acc, accv, S, I', hd', s', ra, h'⟩
  by_cases hl : i < wk.xs.length
  · obtain ⟨x, ex⟩ : ∃ x, wk.xs[i]? = some x := ⟨_, List.getElem?_eq_getElem hl⟩
    rw [show wk.xs.drop i = x :: wk.xs.drop (i + 1) by
      rw [List.drop_eq_getElem_cons hl]
      rw [List.getElem?_eq_getElem hl] at ex
      cases ex; rfl] at h'
    obtain ⟨hok, ρ2, e2, hb⟩ := h'
    refine .inr ⟨it.go _ i H S I' hd' s' hok hl, _, fun H' n => ⟨wk.xs.length - (i + 1), by omega, n⟩, fun v H2 y => ?_⟩
    obtain ⟨I2, hd2, s2, r2⟩ := it.yld _ i H S I' v H2 x hd' s' hok ex y
    refine gPat_run hd2 p r2 ((sl.mono (s'.trans s2)).wipe (vs := vs)) e2 fun σ2 sl2 wp => ⟨(wp vs hv).trans (wipe_wipe σ vs), ?_⟩
    refine lT_then mt hd2 sl2 hb x0_le fun b S3 H3 I3 q3 hd3 s3 sl3 => ?_
    have s4 := (s'.trans s2).trans s3
    cases b with
    | true =>
      rw [if_pos rfl] at q3 ⊢
      refine lE_then me hd3 sl3 q3 (dnX_in fD (s0.trans s4)) fun z S4 w H4 I4 ⟨hz, q4⟩ hd4 s5 sl4 rz => ?_
      refine ⟨accv, (hd4.fra D _ upd_same).1, by rw [ra.len]; exact hz, rfl, hl, acc ++ [z], accv ++ [w], S4, I4, hd4.refr, s4.trans s5, ?_, q4⟩
      exact (ra.mono ((s2.trans s3).trans s5)).app (.cons rz rfl)
    | false =>
      rw [if_neg Bool.false_ne_true] at q3 ⊢
      exact ⟨rfl, hl, acc, accv, S3, I3, hd3, s4, ra.mono (s2.trans s3), q3⟩
  · have e : i = wk.xs.length := by omega
    rw [List.drop_eq_nil_of_le (by omega)] at h'
    have iD : I' D = none := (hd'.fra D _ upd_same).2
    exact .inl ⟨it.stop _ i H S I' hd' s' h'.1 e, h'.2 _ H _ (hd'.unframe fD) (s'.trans (upd_sub iD)) ⟨D, accv, rfl, upd_same, ra.mono (upd_sub iD)⟩⟩
section
variable {X : Cx} {W : WX}
theorem lLcX {ui : UI} {p : Pat} {tt : UT} {te : UE} {vs : List Nat} (mi : MonoI ui) (mt : MonoT tt) (me : MonoE te) (hv : ∀ i ∈ p.slots, i ∈ vs) : ∀ σ H R, lE X.K W (uLcX ui p tt te vs) σ H R → tLcX (lI X.K W ui) (gPat X.K p) (lT X.K W0 tt) (fun W' => lE X.K W' te) W vs σ H R := fun σ H R ⟨L, F, S, I, ρ, hd, sl, h⟩ =>
  ⟨L, F, S, I, ρ, hd, sl, mi _ _ _ _ _ _ (fun wk S1 q J H1 I1 hd1 s1 it D nD => lcX_run mt me hv hd1 s1 (sl.mono s1) it nD (mono_lcXL mt me (dnV_up s1) (fun _ _ _ _ q => q) _ _ _ q)) (fun _ _ _ _ q => q) h⟩
theorem e_lcX {elt tg iter : Expr} {ifs : List Expr} {scope : Scope} {own : List (Str × Nat)} {pos : Pos} {ui : UI} {tt : UT} {te : UE} (p : Pat) (hc : X.calm = true) (hN : X.N.Nodup) (st : X.stack = X.env :: X.outer) (fr : X.env.frame = some X.env.locals) (tk : L2.Takes X W) (hi : TPI X W tg iter ui) (ok : BlkOk X.N X.env.scope scope own) (hv : ∀ i ∈ p.slots, i ∈ own.map (·.2))
    (hg : ∀ (s : Shared) (H : Hp) (C : Addr) (cl : List (Str × Addr)) (fp : List Addr), PG (X.blk s H scope (compEnvC scope cl C X.env) fp) tg (gPat X.K p)) (ht : ∀ (s : Shared) (H : Hp) (C : Addr) (cl : List (Str × Addr)) (fp : List Addr), TPTs (X.blk s H scope (compEnvC scope cl C X.env) fp) ifs tt)
    (he : ∀ (s : Shared) (H : Hp) (C : Addr) (cl : List (Str × Addr)) (fp : List Addr) (xe : Value → Shared → Prop) (W' : WX), L2.Takes ((X.blk s H scope (compEnvC scope cl C X.env) fp).wish xe) W' → TPE ((X.blk s H scope (compEnvC scope cl C X.env) fp).wish xe) W' elt te)
    (hs : ∀ x, foldedSetIterable iter X.env x = pure x := by intro _; rfl) : TPE X W (.ListComp elt [⟨tg, iter, ifs, 0⟩] scope pos) (uLcX ui p tt te (own.map (·.2))) :=
  have mt := (ht X.s_0 X.H_0 0 [] []).mono
  have me := (he X.s_0 X.H_0 0 [] [] (fun _ _ => True) W0 fun _ _ _ => trivial).mono
  ⟨wkE (pe_lcX (te := fun W' => lE X.K W' te) hc hN st fr tk hi.pe ok hg (fun s H C cl fp => (ht s H C cl fp).pe) (fun s H C cl fp xe W' tk' => (he s H C cl fp xe W' tk').pe) hs) (lLcX hi.mono mt me hv), mono_lcX hi.mono mt me⟩
theorem s_setLcX {i : Nat} {y : Str} {py : Pos} {elt tg iter : Expr} {ifs : List Expr} {scope : Scope} {own : List (Str × Nat)} {pos spos : Pos} {ui : UI} {tt : UT} {te : UE} (p : Pat) (hc : X.calm = true) (hN : X.N.Nodup) (hy : X.N[i]? = some y) (hyl : X.env.scope.names.lookup y = some .local)
    (hsw : swapsWith (.ListComp elt [⟨tg, iter, ifs, 0⟩] scope pos) (some (.Name y py)) spos.line X.env = pure true) (st : X.stack = X.env :: X.outer) (fr : X.env.frame = some X.env.locals) (tk : L2.Takes X W) (hi : TPI X W tg iter ui) (ok : BlkOk X.N X.env.scope scope own) (hv : ∀ i ∈ p.slots, i ∈ own.map (·.2))
    (hg : ∀ (s : Shared) (H : Hp) (C : Addr) (cl : List (Str × Addr)) (fp : List Addr), PG (X.blk s H scope (compEnvC scope cl C X.env) fp) tg (gPat X.K p)) (ht : ∀ (s : Shared) (H : Hp) (C : Addr) (cl : List (Str × Addr)) (fp : List Addr), TPTs (X.blk s H scope (compEnvC scope cl C X.env) fp) ifs tt)
    (he : ∀ (s : Shared) (H : Hp) (C : Addr) (cl : List (Str × Addr)) (fp : List Addr) (xe : Value → Shared → Prop) (W' : WX), L2.Takes ((X.blk s H scope (compEnvC scope cl C X.env) fp).wish xe) W' → TPE ((X.blk s H scope (compEnvC scope cl C X.env) fp).wish xe) W' elt te)
    (hs : ∀ x, foldedSetIterable iter X.env x = pure x := by intro _; rfl) : TPS X W (.Assign [.Name y py] (.ListComp elt [⟨tg, iter, ifs, 0⟩] scope pos) spos) (uSet i (uLcX ui p tt te (own.map (·.2)))) :=
  have mt := (ht X.s_0 X.H_0 0 [] []).mono
  have me := (he X.s_0 X.H_0 0 [] [] (fun _ _ => True) W0 fun _ _ _ => trivial).mono
  ⟨wkS (ps_setLcX (te := fun W' => lE X.K W' te) hc hN hy hyl hsw st fr tk hi.pe ok hg (fun s H C cl fp => (ht s H C cl fp).pe) (fun s H C cl fp xe W' tk' => (he s H C cl fp xe W' tk').pe) hs) fun D σ H z => lLcX hi.mono mt me hv σ H _ (lSet (mono_lcX hi.mono mt me) D σ H z), mono_set (mono_lcX hi.mono mt me)⟩
end
end KQ
namespace KQ
open PySem PySem.Spec PyProof.Rows L2 TL KB
/-! ### classes whose __init__ has keyword-only parameters: C(k = v, ..) -/
structure DefMK (K : PySem.W.Frag) (C : Addr) (m qual : Str) (st : Stmt) (kws : List (Str × Tr)) : Prop where
  ex : ∃ (f : Addr) (fd : FuncData), FunD K m qual (defArgs st) (defBody st) (defScope st) [] (kwV kws) f fd ∧ PySem.W.findIn K (.ref C) m = some (some (.ref f)) ∧ PySem.W.isFn K (.ref f) = true
structure NewD (P : Program) (w : World) (K : PySem.W.Frag) (mg : Str → Option Value) (base : Heap) (k : Nat) (x : Str) (C : Addr) (qual : Str) (st : Stmt) (kws : List (Str × Tr)) (ps : List Str) (t : TSp) : Prop where
  ex : ∃ (f : Addr) (fd : FuncData) (tI : TSp), Mk K C f ∧ mg x = some (.ref C) ∧ FunD K "__init__" qual (defArgs st) (defBody st) (defScope st) [] (kwV kws) f fd ∧ FnOk P w K mg base (L2.CX P w) k f fd ps (lSp K tI) ∧ MonoSp tI ∧
    ∀ xs S Q X, Closed Q → ClosedX X → t xs S Q X → ∀ a, S a = none → tI (.ref a :: xs) (put S a (.ins C [] [])) (fun v S2 => v = .non ∧ Q (.ref a) S2) X
  mono : MonoSp t
section
variable {P : Program} {w : World} {K : PySem.W.Frag} {mg : Str → Option Value} {base : Heap} {x qual : Str} {C : Addr} {st : Stmt} {kws : List (Str × Tr)} {ps : List Str} {t : TSp}
theorem NewD.lift {j k : Nat} (N : NewD P w K mg base j x C qual st kws ps t) (h : j ≤ k) : NewD P w K mg base k x C qual st kws ps t := by
  obtain ⟨⟨f, fd, tI, M, g, F, O, mI, q⟩, m⟩ := N
  exact ⟨⟨f, fd, tI, M, g, F, O.mono h, mI, q⟩, m⟩
theorem DefMK.newD {N : List Str} {k : Nat} {tI : TSp} {us : US} (D : DefMK K C "__init__" qual st kws) (hmk : PySem.W.makesIn K C = true) (hkp : PySem.W.keepIn K (.ref C) = true) (g : mg x = some (.ref C)) (S : FnScope N ps (defScope st))
    (len : ∀ xs S Q X, tI xs S Q X → xs.length = ps.length) (mI : MonoSp tI) (mono : MonoSp t) (body : BodyT P w K mg base k qual st N us)
    (h : ∀ xs S Q X, Closed Q → ClosedX X → tI xs S Q X → us (endU Q) (endX X) (startT N xs) S)
    (hw : ∀ xs S Q X, Closed Q → ClosedX X → t xs S Q X → ∀ a, S a = none → tI (.ref a :: xs) (put S a (.ins C [] [])) (fun v S2 => v = .non ∧ Q (.ref a) S2) X) : NewD P w K mg base (k + 1) x C qual st kws ps t := by
  obtain ⟨f, fd, F, h1, h2⟩ := D.ex
  exact ⟨⟨f, fd, tI, ⟨hmk, h1, h2, hkp⟩, g, F, fnD_ok F S len body h, mI, hw⟩, mono⟩
end
def uNewK (m : Nat) (l : Pks) (ms : List Tr) (tsp : TSp) (tk : UA) : UE := fun ρ S Q X => tk ρ S (fun zs S2 => zs.length = m ∧ tsp (pick l [] ms zs) S2 Q X) X
theorem mono_newK {m : Nat} {l : Pks} {ms : List Tr} {tsp : TSp} {tk : UA} (mt : MonoSp tsp) (mk : MonoA tk) : MonoE (uNewK m l ms tsp tk) := fun ρ S Q Q' X X' hQ hX h =>
  mk _ _ _ _ _ _ (fun zs S2 ⟨e, q⟩ => ⟨e, mt _ _ _ _ _ _ hQ hX q⟩) hX h
theorem pick_no0 {α : Type} {us : List α} : ∀ {l : Pks} {mv ws : List α}, (l.all fun p => p.1 != 0) = true → pick l us mv ws = pick l [] mv ws
  | [], _, _, _ => rfl
  | p :: l, mv, ws, h => by
    rw [List.all_cons, Bool.and_eq_true] at h
    have ih := pick_no0 (us := us) (mv := mv) (ws := ws) h.2
    have n0 : p.1 ≠ 0 := by simpa using h.1
    unfold pick at ih ⊢
    simp only [List.filterMap_cons, if_neg n0, ih]
section
variable {X : Cx} {W : WX} {k : Nat} {x qual : Str} {C : Addr} {st : Stmt} {kws : List (Str × Tr)} {ps ks : List Str} {ms : List (Str × Tr)} {l : Pks} {t : TSp} {kl : List Keyword} {tk : UA} {p pos : Pos}
theorem e_newK (N : NewD X.prog X.w X.K X.mg X.base k x C qual st kws ps t) (sh : Shp "__init__" qual st kws ps 1 ks ms ((0, 0) :: l)) (hl : (l.all fun p => p.1 != 0) = true) (hr : Room (k + 1) X.A) (hg : Gl X x) (tk' : Takes X W) (hkw : TPK X W kl tk)
    (hall : (backToKw pos (keywordEach kl X.env)).all (·.1.isSome) = true := by rfl) (hks : (backToKw pos (keywordEach kl X.env)).filterMap (·.1) = ks := by rfl) (hdb : (x == ("__debug__" : Str)) = false := by decide)
    (hpl : ((backTo pos (starEach [] X.env)).any (·.1) || (backToKw pos (keywordEach kl X.env)).any (·.1.isNone)) = false := by rfl) :
    TPE X W (.Call (.Name x p) [] kl pos) (uNewK ks.length l (ms.map (·.2)) t tk) := by
  obtain ⟨⟨f, fd, tI, M, g, F, O, mI, w⟩, mt⟩ := N
  obtain ⟨mv, kb⟩ := sh.kbn F
  refine ⟨⟨fun pins s σ H Q I h => ?_⟩, mono_newK mt hkw.mono⟩
  obtain ⟨L, F', S, I0, ρ, hd, sl, h⟩ := h
  have h' : lA X.K W tk σ H (fun zs H2 => zs.length = ks.length ∧ ∀ a dx, H2 a = none → H2 dx = none → dx ≠ a →
      lSp X.K tI (pick ((0, 0) :: l) [.ref a] (ms.map fun q => cV q.2) zs) (upd (upd H2 dx (.own a)) a (.ins C dx [])) (fun v H3 => v = .non ∧ Q (.ref a) H3) (WE W σ)) :=
    lA_then hkw.mono hd sl h (fun _ _ _ _ h => h) fun zs S2 us H2 I2 ⟨l2, q2⟩ hd2 s2 sl2 rz => by
      refine ⟨by rw [rz.len]; exact l2, fun a dx na nx ne => ?_⟩
      have hd3 : Hd X.K L F' (upd H2 dx (.own a)) S2 I2 := hd2.un nx
      have n3 : upd H2 dx (.own a) a = none := by rw [upd_ne ne.symm]; exact na
      have hd4 := hd3.cell (c := .ins C [] []) (o := .ins C dx []) n3 ⟨_, [], rfl, rfl, rfl⟩
      have q3 := w _ S2 _ _ dnV_closed dnX_closed (mt _ _ _ _ _ _ (dnV_up s2) (dnX_up s2) q2) a (hd2.freeS na)
      have rp : RepL X.K I2 (Tr.ref a :: pick l [] (ms.map (·.2)) zs) (pick ((0, 0) :: l) [V.ref a] (ms.map fun q => cV q.2) us) := by
        rw [pick_0 (x := V.ref a) rfl, pick_no0 (us := [V.ref a]) hl]
        refine .cons rfl (pick_rep l rfl ?_ rz)
        have := cV_reps (K := X.K) (I := I2) sh.cst
        rw [List.map_map] at this
        exact this
      exact ⟨L, F', _, I2, _, hd4, rp, mI _ _ _ _ _ _ (fun y S3 ⟨e, z⟩ v H' I' h1 h2 h3 => by subst e; cases h3; exact ⟨rfl, z _ H' I' h1 h2 rfl⟩) (fun _ _ _ _ z => z) q3⟩
  refine wpAny_Call_Name_kw (ld_glob I hg g ?_ hdb)
  refine PySem.W.callWith_KW0 (h₀ := X.base) I.ok.mod.kin M.kp hall ?_ hpl
  refine thn (hkw.pe.run pos pins s σ H _ I h') fun ws s2 ⟨zs, H2, I2, rz, l2, q2⟩ => ⟨I2.kIn, ?_⟩
  rw [hks]
  have hq := q2 (s2.heap.objs.size + 1) s2.heap.objs.size (I2.hok.fresh (Nat.le_succ _)) (I2.hok.fresh (Nat.le_refl _)) (Nat.ne_of_lt (Nat.lt_succ_self _))
  have I3 := Inv.made (C := C) I2
  have r1 : Vals [V.ref (s2.heap.objs.size + 1)] [Value.ref (s2.heap.objs.size + 1)] := .cons rfl .nil
  have nw : ws.length = ks.length := by rw [← rz.length]; exact l2
  refine wpAny_call (make_map (f := f) I2.kIn M.makes M.init (beq_iff_eq.mp M.fn) (codeAny_mono (O.run _ X.stack _ _ ⟨[Value.ref (s2.heap.objs.size + 1)], ks.zip ws⟩ _ _ _ (WE W σ) (hr.make C [] (ks.zip ws)) (I3.env0.make C [] (ks.zip ws)) (kb.to _ [Value.ref (s2.heap.objs.size + 1)] ws I3.kIn rfl nw) (kb.rel r1 rz) hq) fun r s' hq' => ?_))
  cases r with
  | error e => exact passAt tk' σ pins _ _ e s' I3 hq'
  | ok fl =>
    cases fl with
    | ret u =>
      obtain ⟨v, H', I4, rv, ev, q3⟩ := I3.after hq'
      subst ev
      exact ⟨rv, ⟨V.ref (s2.heap.objs.size + 1), H', I4, rfl, q3⟩⟩
    | next => exact hq'.elim
    | brk => exact hq'.elim
    | cont => exact hq'.elim
end
end KQ
namespace KQ
open PySem PySem.Spec PyProof.Rows L2 TL KB
/-! ### == and != by an own __eq__ -/
section
variable {prog : Program} {w : World} {A : Around} {E : Value → Shared → Prop} {s : Shared} {K : PySem.W.Frag} {x C L f : Addr} {h₀ : Heap} {m : Str → Option Value} {ox : Obj} {od : Option Obj} {b tb : Value}
open PySem.W in
theorem ifBound_B {M : Model} {name : Str} {id : String} {args : List Value} {Q : Option Value → Shared → Prop} (X : K.In s.heap) (I : InstAt s.heap x ox C od) (hs : findIn K (.ref C) name = some (some (.builtin id)))
    (hb : ∀ self, bindSpecial (.builtin id) self = pure (.builtin id, [self])) (h : wpAny M A (call (.builtin id) (.ref x :: args)) (fun v => Q (some v)) E s) : wpAny M A (callSpecialIfBound? (.ref x) name args) Q E s := by
  simp only [callSpecialIfBound?, bindSpecialIfBound?]
  refine wpAny_holding (wpAny_bind (wpAny_bind (wpAny_bind (I.type.here ((looks_findIn X hs).here ?_)))))
  refine wpAny_bind (wpAny_askSetting (wpAny_ite ?_))
  have fin : wpAny M A (call (.builtin id) ([.ref x] ++ args) >>= fun v => pure (some v)) Q E s := wpAny_bind (wpAny_mono h (fun v s' h' => wpAny_pure h') fun _ _ h' => h')
  split
  · exact wpAny_bind ((Looks.of_pure (hb _)).here (wpAny_pure (by exact fin)))
  · exact wpAny_tryCatch (wpAny_bind ((Looks.of_pure (hb _)).here (wpAny_pure (by exact fin))))
theorem slot_ne : Slot "object" "__ne__" "object.__ne__" := F.cmp_object.ne
open PySem.W Builtin in
theorem ne_call {Q : Value → Shared → Prop} (hu : A.in1.units < cLine) (X : K.In s.heap) (I : InstAt s.heap x ox C od) (hm : mroIn K C (.type "object") = some true) (hr : findIn K (.ref C) "__eq__" = some (some (.ref f))) (hf : isFn K (.ref f) = true)
    (h : wpAny (model prog w) A.in1 (call (.ref f) [.ref x, b]) (fun v s' => ∃ c, v = .bool c ∧ Q (.bool (!c)) s') E s) : wpAny (model prog w) A (call (.builtin "object.__ne__") [.ref x, b]) Q E s := by
  refine wpAny_call (codeAny_call_builtin slot_ne.plain F.cmpEntry_ne (check_slot (i := "object.__ne__") (owner := "object") (n := "__ne__") (by decide +kernel) (by decide +kernel) (I.type.andThen (looks_mroIn X hm)) (F.cmpArgs_ne _ _) ?_))
  unfold Builtin.«object.__ne__»
  refine wpAny_bind (m := slotArgs "__ne__" 1 _) (wpAny_pure ?_)
  refine wpAny_bind (m := cRoomFor _ _) (wpAny_cRoomFor hu ?_)
  refine wpAny_bind (m := callSpecialIfBound? (.ref x) (Str.ofString "__eq__") _) (ifBound_K X I hr hf (wpAny_mono h (fun r s' hq => ?_) fun _ _ y => y))
  obtain ⟨c, rfl, hq⟩ := hq
  refine wpAny_bind (m := truthy (.bool c)) (wpAny_truthy_bool ?_)
  exact wpAny_pure hq
open PySem.W in
theorem ne_K {Q : Value → Shared → Prop} (hu : A.units < cLine) (hu1 : A.in1.units < cLine) (F : Fr h₀ L s.heap m) (X₀ : K.In h₀) (I : InstAt s.heap x ox C od) (hb : Looks (model prog w) s.heap (typeOf b) tb) (hn : notFirst K C tb = true)
    (hs : findIn K (.ref C) "__ne__" = some (some (.builtin "object.__ne__"))) (hm : mroIn K C (.type "object") = some true) (he : findIn K (.ref C) "__eq__" = some (some (.ref f))) (hf : isFn K (.ref f) = true)
    (h : wpAny (model prog w) A.in1 (call (.ref f) [.ref x, b]) (fun v s' => ∃ c, v = .bool c ∧ Q (.bool (!c)) s') E s) : wpAny (model prog w) A (richCompare .NotEq (.ref x) b) Q E s := by
  have X := X₀.keeps F.keep
  have one : wpAny (model prog w) A (tryCompare (.ref x) (cmpInfo .NotEq).2.1 b) (fun r s' => ∃ v, r = some v ∧ Q v s') E s := by
    unfold tryCompare
    refine wpAny_bind (ifBound_B X I hs slot_ne.bind (ne_call hu1 X I hm he hf (wpAny_mono h (fun v s' hv => ?_) fun _ _ e => e)))
    obtain ⟨c, rfl, hq⟩ := hv
    exact ⟨c, rfl, wpAny_pure ⟨_, rfl, hq⟩⟩
  unfold richCompare
  simp only [oneThing_ref]
  refine wpAny_holding (wpAny_bind (wpAny_cRoomFor hu ?_))
  refine wpAny_bind (I.type.here (wpAny_bind (hb.here ?_)))
  split
  · rename_i q
    have e : subIn K tb (.ref C) = some false := by
      rcases Bool.or_eq_true_iff.mp hn with e | e
      · rw [beq_iff_eq.mp e] at q; simp at q
      · exact beq_iff_eq.mp e
    refine wpAny_bind ((looks_subIn X e).here ?_)
    simp only [Bool.false_eq_true, if_false]
    refine wpAny_bind (wpAny_mono one (fun r s' z => ?_) fun _ _ e => e)
    obtain ⟨v, rfl, hq⟩ := z
    exact wpAny_pure hq
  · refine wpAny_bind (wpAny_pure ?_)
    simp only [Bool.false_eq_true, if_false]
    refine wpAny_bind (wpAny_mono one (fun r s' z => ?_) fun _ _ e => e)
    obtain ⟨v, rfl, hq⟩ := z
    exact wpAny_pure hq
end
/-- x == y, x != y (n), x of a class with an own __eq__ that answers True or False -/
def uOEq (K : PySem.W.Frag) (n : Bool) (ms : Addr → TSp → Prop) (ta tb : UE) : UE := fun ρ S Q X => ta ρ S (fun x S1 => tb ρ S1 (fun y S2 => ∃ C fs xs t u, vw S2 x = .ins C fs xs ∧ ms C t ∧ tyT K (vw S2 y) u ∧ PySem.W.notFirst K C u = true ∧ t [x, y] S2 (fun z S3 => ∃ b, z = .bl b ∧ Q (.bl (n ^^ b)) S3) X) X) X
section
variable {X : Cx} {W : WX} {k : Nat} {ms : Addr → TSp → Prop} {a b : Expr} {ta tb : UE} {pos : Pos} {K : PySem.W.Frag}
theorem mono_oeq {n : Bool} (hM : ∀ C t, ms C t → MonoSp t) (ma : MonoE ta) (mb : MonoE tb) : MonoE (uOEq K n ms ta tb) := fun ρ S Q Q' X X' hQ hX h => ma _ _ _ _ _ _ (fun x S1 q => mb _ _ _ _ _ _ (fun y S2 ⟨C, fs, xs, t, u, e1, c, e2, e3, q⟩ => ⟨C, fs, xs, t, u, e1, c, e2, e3, hM C t c _ _ _ _ _ _ (fun z S3 ⟨b, e, q⟩ => ⟨b, e, hQ _ _ q⟩) hX q⟩) hX q) hX h
structure OwnEq (K : PySem.W.Frag) (C : Addr) : Prop where
  ne : PySem.W.findIn K (.ref C) "__ne__" = some (some (.builtin "object.__ne__"))
  mr : PySem.W.mroIn K C (.type "object") = some true
theorem pc_oeq {n : Bool} (hk : X.K = K) (hM : ∀ C t, ms C t → MthT X.prog X.w X.K X.mg X.base k C "__eq__" t) (hE : ∀ C t, ms C t → OwnEq X.K C) (hr : Room (k + 1) X.A) (tk : Takes X W) (ha : TPE X W a ta) (hb : TPE X W b tb) : PC X (if n then .NotEq else .Eq) a b (lE X.K W (uOEq K n ms ta tb)) := by
  subst hk
  refine ⟨fun pins s σ H Q I h => ?_⟩
  obtain ⟨L, F, S, I0, ρ, hd, sl, h⟩ := h
  have step : lE X.K W ta σ H (fun x H1 => lE X.K W tb σ H1 (fun y H2 => ∃ p C dx fs t u, x = .ref p ∧ H2 p = some (.ins C dx fs) ∧ ms C t ∧ TyX X.K H2 y u ∧ PySem.W.notFirst X.K C u = true ∧ lSp X.K t [.ref p, y] H2 (fun v H3 => ∃ c, v = .bl c ∧ Q (.bl (n ^^ c)) H3) (WE W σ))) :=
    lE_then ha.mono hd sl h (fun _ _ _ _ h => h) fun x S1 v H1 I1 q hd1 s1 sl1 r =>
      lE_then hb.mono hd1 sl1 q (dnX_up s1) fun y S2 u H2 I2 ⟨C, fs, xs, t, u', e1, c, e2, e3, q⟩ hd2 s2 sl2 ry => by
        obtain ⟨p, dx, vs, rfl, h1, hl, h2⟩ := vw_ins hd2 (r.mono s2) e1
        exact ⟨p, C, dx, _, t, u', rfl, h1, c, tyT_ty hd2 ry e2, e3, L, F, S2, I2, [x, y], hd2, .cons (r.mono s2) (.cons ry rfl), (hM C t c).mono _ _ _ _ _ _ (fun z S3 ⟨b, e, q⟩ v3 H3 I3 hd3 s3 r3 => by subst e; cases r3; exact ⟨b, rfl, q _ H3 I3 hd3 ((s1.trans s2).trans s3) rfl⟩) (dnX_up (s1.trans s2)) q⟩
  refine binT ha.pe hb.pe I step fun v u s2 x y H2 I2 rx ry ⟨p, C, dx, fs, t, u', ex, h1, c, ty, hn, w⟩ => ?_
  subst ex
  cases rx
  obtain ⟨⟨f, fd, ps, M, bd, Fn⟩, cl, _⟩ := hM C t c
  obtain ⟨mA, J, _⟩ := ins_get I2.hok h1
  obtain ⟨od, J, _⟩ := J.look
  obtain ⟨m, hF⟩ := I2.fr
  have LT : PySem.W.Looks (model X.prog X.w) s2.heap (typeOf u) u' := by
    obtain ⟨P, kx, hp, _⟩ := kit_of I2 ry ty
    exact kx.ty _ _ I2.kIn hp
  have run : ∀ {A' : Around} (hr' : Room k A') (he : Env0 X.prog X.w X.K X.mg X.base A' X.stack s2 H2), wpAny (model X.prog X.w) A' (call (.ref f) [.ref p, u]) (fun v s' => ∃ z H3, L2.Inv X pins σ H3 s' ∧ RelV z v ∧ ∃ c, z = .bl c ∧ Q (.bl (n ^^ c)) H3) X.xe s2 := fun {A'} hr' he => by
    have hlen : [Value.ref p, u].length = ps.length := Fn.len _ _ _ _ w
    refine wpAny_call (codeAny_mono (Fn.run A' X.stack s2 H2 ⟨[.ref p, u], []⟩ [.ref p, u] [.ref p, y] _ (WE W σ) hr' he ?_ (.cons rfl (.cons ry .nil)) w) fun r s' hq => ?_)
    · have := bd s2 [.ref p, u] I2.kIn (by simpa using hlen)
      simpa using this
    · cases r with
      | error e => exact passAt tk σ pins H2 s2 e s' I2 hq
      | ok fl =>
        cases fl with
        | ret v =>
          obtain ⟨z, H3, I3, rz, q⟩ := I2.after hq
          exact ⟨z, H3, I3, rz, q⟩
        | next => exact hq.elim
        | brk => exact hq.elim
        | cont => exact hq.elim
  cases n with
  | false =>
    refine PySem.W.cmp_K (op := .Eq) (tb := u') hr.units0 hF I2.ok.mod.kin J LT hn M.at_ M.fn (wpAny_mono (run (hr.mono (by omega)) I2.env0) (fun r s' ⟨z, H3, I3, rz, d, ez, q⟩ => ?_) fun _ _ x => x)
    subst ez
    cases rz
    exact ⟨.bl (false ^^ d), H3, I3, by rw [Bool.false_xor]; rfl, q⟩
  | true =>
    refine ne_K (tb := u') hr.units0 hr.in1.units0 hF I2.ok.mod.kin J LT hn (hE C t c).ne (hE C t c).mr M.at_ M.fn (wpAny_mono (run hr.in1 I2.env0.in1) (fun r s' ⟨z, H3, I3, rz, d, ez, q⟩ => ?_) fun _ _ x => x)
    subst ez
    cases rz
    exact ⟨d, rfl, .bl (true ^^ d), H3, I3, by rw [Bool.true_xor]; rfl, q⟩
theorem e_oeq {n : Bool} {op : CmpOp} (ho : op = if n then .NotEq else .Eq) (hk : X.K = K) (hM : ∀ C t, ms C t → MthT X.prog X.w X.K X.mg X.base k C "__eq__" t) (hE : ∀ C t, ms C t → OwnEq X.K C) (hr : Room (k + 1) X.A) (tk : Takes X W) (ha : TPE X W a ta) (hb : TPE X W b tb) (hm : behindInMarks op b = false) : TPE X W (.Compare a [op] [b] pos) (uOEq K n ms ta tb) := by
  subst ho
  exact ⟨pe_cmp (pc_oeq hk hM hE hr tk ha hb) hm, mono_oeq (fun C t c => (hM C t c).mono) ha.mono hb.mono⟩
theorem t_oeq {n : Bool} {op : CmpOp} (ho : op = if n then .NotEq else .Eq) (hk : X.K = K) (hM : ∀ C t, ms C t → MthT X.prog X.w X.K X.mg X.base k C "__eq__" t) (hE : ∀ C t, ms C t → OwnEq X.K C) (hr : Room (k + 1) X.A) (tk : Takes X W) (ha : TPE X W a ta) (hb : TPE X W b tb) (hm : behindInMarks op b = false) : TPT X W (.Compare a [op] [b] pos) (uB (uOEq K n ms ta tb)) := by
  subst ho
  have mo : MonoE (uOEq K n ms ta tb) := mono_oeq (fun C t c => (hM C t c).mono) ha.mono hb.mono
  exact ⟨wkT (pt_cmp (pc_oeq hk hM hE hr tk ha hb) hm) fun σ H R h => by
    obtain ⟨L', F', S', I', ρ', h1, h2, h3⟩ := lB (X := X) (W := W) mo σ H R h
    exact ⟨L', F', S', I', ρ', h1, h2, h3⟩, mono_b mo⟩
end
end KQ
namespace KQ
open PySem PySem.Spec PyProof.Rows L2 TL KB
/-! ### str(None), str(True), list(a dict), x[::-1], list(x) that will change -/
section
variable {X : Cx} {W : WX} {K : PySem.W.Frag}
def rStr4 : List V → Hp → VK → Prop := fun vs H Q => KB.rStrA vs H Q ∨ (∃ b, vs = [.bl b] ∧ Q (.str (if b then Str.ofString "True" else Str.ofString "False")) H) ∨ (vs = [.non] ∧ Q (.str "None") H)
theorem str4 : CallR X (.type "str") rStr4 := by
  intro pins s σ H xs us Q I r h
  rcases h with h | ⟨b, rfl, q⟩ | ⟨rfl, q⟩
  · exact KB.str_any pins s σ H xs us Q I r h
  · obtain ⟨u, rfl, r1⟩ := vals1 r
    cases r1
    exact PySem.P.str_of_bool ⟨.str _, H, I.tok _, ⟨_, rfl⟩, q⟩
  · obtain ⟨u, rfl, r1⟩ := vals1 r
    cases r1
    exact PySem.P.str_of_none ⟨.str _, H, I.tok _, ⟨_, rfl⟩, q⟩
def gStr4 (xs : List Tr) (z : Tr) : Prop := match xs with
  | [.int i] => i.natAbs.log2 < 1920 ∧ z = .str (Str.ofString (toString i))
  | [.str a] => z = .str a
  | [.bl b] => z = .str (if b then Str.ofString "True" else Str.ofString "False")
  | [.non] => z = .str "None"
  | _ => False
theorem c_str4 : CallT K rStr4 gStr4 := by
  intro L F H S I xs z vs R hd r hg k
  unfold gStr4 at hg
  split at hg
  · rename_i i e0
    obtain ⟨x, rfl, e⟩ := map1 e0
    obtain ⟨v, rfl, r1⟩ := RepL.one r
    cases vw_eq_int hd r1 e
    obtain ⟨c, rfl⟩ := hg
    exact .inl (.inl ⟨i, rfl, c, k _ H I hd (Same.refl _) rfl⟩)
  · rename_i i e0
    obtain ⟨x, rfl, e⟩ := map1 e0
    obtain ⟨v, rfl, r1⟩ := RepL.one r
    cases vw_eq_str hd r1 e
    subst hg
    exact .inl (.inr ⟨i, rfl, k _ H I hd (Same.refl _) rfl⟩)
  · rename_i i e0
    obtain ⟨x, rfl, e⟩ := map1 e0
    obtain ⟨v, rfl, r1⟩ := RepL.one r
    cases vw_eq_bl hd r1 e
    subst hg
    exact .inr (.inl ⟨i, rfl, k _ H I hd (Same.refl _) rfl⟩)
  · rename_i e0
    obtain ⟨x, rfl, e⟩ := map1 e0
    obtain ⟨v, rfl, r1⟩ := RepL.one r
    cases vw_eq_non hd r1 e
    subst hg
    exact .inr (.inr ⟨rfl, k _ H I hd (Same.refl _) rfl⟩)
  · exact hg.elim
theorem call_list_rd (hc : X.calm = true) : CallR X (.type "list") (fun xs H Q => ∃ p kvs, xs = [.ref p] ∧ Rd H p (.dK kvs) ∧ ∀ q, H q = none → Q (.ref q) (upd H q (.lst (kvs.map fun kv => kV kv.1)))) := by
  intro pins s σ H xs us Q I r h
  obtain ⟨p, kvs, e, hk, q⟩ := h
  subst e
  obtain ⟨u, eu, rx⟩ := vals1 r
  subst eu
  obtain rfl : u = Value.ref p := rx
  have ok : ObjOk X.prog X.w H s.heap p (.dK kvs) := by
    rcases hk with hk | ⟨od, hk⟩
    · exact I.hok p _ hk
    · exact (I.hok p _ hk).2
  obtain ⟨z, lo, vs, rk, hd⟩ := ok
  obtain ⟨ep, hat⟩ := hd.dictAt
  have hl : kvs.length = vs.length := Paired.length rk
  refine PySem.W.kdl_call (PySem.W.kdl_dict (knd := mixKind X.prog X.w) (kvs := vs) (ep := ep) lo) (I.ok.hd hc) hat (by rw [← hl]; exact z) fun h' tk acc' c' hkeep hS hacc => ?_
  refine ⟨.ref s.heap.objs.size, upd H s.heap.objs.size (.lst (kvs.map fun kv => kV kv.1)), I.laid hkeep (Nat.le_refl _) (show ObjOk X.prog X.w _ _ _ (.lst (kvs.map fun kv => kV kv.1)) from ⟨?_, acc'.toList, c', ?_, ?_⟩), rfl, q _ (I.hok.fresh (Nat.le_refl _))⟩
  · rw [List.length_map]; exact z
  · have el : acc'.toList.length = acc'.size := by simp
    refine vals_of_at (by rw [List.length_map, el, hacc.1, hl]) fun j x w h1 h2 => ?_
    obtain ⟨k, y, hky, hi⟩ := hacc.2 j w (by rw [← Array.getElem?_toList]; exact h2)
    have e1 : (kvs.map (·.1))[j]? = some k := by
      rw [KV.keys rk, List.getElem?_map, hky] <;> rfl
    have e2 : (kvs.map fun kv => kV kv.1)[j]? = some (kV k) := by
      have e3 : (kvs.map fun kv => kV kv.1) = (kvs.map (·.1)).map kV := by rw [List.map_map] <;> rfl
      rw [e3, List.getElem?_map, e1] <;> rfl
    rw [e2] at h1
    cases h1
    exact keyIs_rel hi
  · rw [Array.toArray_toList]; exact hS
def rList3 (K : PySem.W.Frag) : List V → Hp → VK → Prop := fun xs H Q => (∃ p ys, xs = [.ref p] ∧ (SqL K H p ys ∨ SqT K H p ys) ∧ ∀ l, H l = none → Q (.ref l) (upd H l (.lst ys))) ∨ (∃ p kvs, xs = [.ref p] ∧ Rd H p (.dK kvs) ∧ ∀ q, H q = none → Q (.ref q) (upd H q (.lst (kvs.map fun kv => kV kv.1))))
theorem list3 (hc : X.calm = true) : CallR X (.type "list") (rList3 X.K) := KB.CallR.or call_list_of (call_list_rd hc)
/-- what list(x) is made of -/
def seqOf : Tr → Option (List Tr)
  | .lst ys => some ys
  | .scr ns => some (ns.map Tr.int)
  | .tup ys => some ys
  | .dic ks _ => some (ks.map kT)
  | _ => none
def gList3 (xs : List Tr) (z : Tr) : Prop := match xs with
  | [x] => ∃ ys, seqOf x = some ys ∧ z = .lst ys
  | _ => False
theorem rep_keys {I : Hp} : ∀ {ks : List Key} {vs : List V}, ks.length = vs.length → RepL K I (ks.map kT) ((ks.zip vs).map fun kv => kV kv.1)
  | [], [], _ => rfl
  | k :: ks, v :: vs, h => by
    refine ⟨kV k, _, rfl, ?_, rep_keys (by simpa using h)⟩
    cases k <;> rfl
theorem seq_run {L : Lk} {F H : Hp} {S : Sto} {I : Hp} {x : Tr} {v : V} {ys : List Tr} {R : VK} (hd : Hd K L F H S I) (r : Rep K I x v) (e : seqOf (vw S x) = some ys) (h : ∀ us l, RepL K I ys us → H l = none → R (.ref l) (upd H l (.lst us))) : rList3 K [v] H R := by
  cases z : vw S x with
  | lst zs =>
    rw [z] at e; cases e
    obtain ⟨a, us, rfl, h1, h2⟩ := vw_lst hd r z
    exact .inl ⟨a, us, rfl, .inl (.inl (.inl h1)), fun l nl => h us l h2 nl⟩
  | scr ns =>
    rw [z] at e; cases e
    obtain ⟨a, rfl, h1⟩ := vw_scr hd r z
    exact .inl ⟨a, _, rfl, .inl h1, fun l nl => h _ l (RepL.ints ns) nl⟩
  | tup zs =>
    rw [z] at e; cases e
    obtain ⟨a, us, rfl, h1, h2⟩ := vw_tup hd r z
    exact .inl ⟨a, us, rfl, .inr h1, fun l nl => h us l h2 nl⟩
  | dic ks zs =>
    rw [z] at e; cases e
    obtain ⟨a, vs, rfl, h1, h2, h3⟩ := vw_dic hd r z
    exact .inr ⟨a, _, rfl, h1, fun l nl => h _ l (rep_keys (by rw [h3.len]; exact h2)) nl⟩
  | _ => rw [z] at e; cases e
theorem c_list3 : CallT K (rList3 K) gList3 := by
  intro L F H S I xs z vs R hd r hg k
  unfold gList3 at hg
  split at hg
  · rename_i y e0
    obtain ⟨x, rfl, e⟩ := map1 e0
    obtain ⟨v, rfl, r1⟩ := RepL.one r
    obtain ⟨ys, e1, rfl⟩ := hg
    exact seq_run hd r1 (by rw [e]; exact e1) fun us l h2 nl => k _ _ _ (hd.imm nl) (upd_sub (hd.freeI nl)) ⟨l, us, rfl, upd_same, h2.mono (upd_sub (hd.freeI nl))⟩
  · exact hg.elim
def uListC (te : UE) : UE := fun ρ S Q X => te ρ S (fun x S1 => ∃ ys, seqOf (vw S1 x) = some ys ∧ ∀ p, S1 p = none → Q (.ref p) (put S1 p (.lst ys))) X
theorem e_listC {e : Expr} {te : UE} {p pos : Pos} (hc : X.calm = true) (hg : Gl X "list") (hm : X.mg "list" = none) (he : TPE X W e te)
    (s1 : starEach [e] X.env = (false, eval e X.env) :: starEach [] X.env := by rfl) (hpl : (backTo pos (starEach [] X.env)).any (·.1) = false := by rfl) : TPE X W (.Call (.Name "list" p) [e] [] pos) (uListC te) :=
  ⟨wkE (pe_callTy (list3 hc) hg hm boot_list (pa_cons he.pe pa_nil s1) (he := s1) (hpl := hpl)) fun σ H R ⟨L, F, S, I, ρ, hd, sl, h⟩ =>
    lE_then he.mono hd sl h (fun _ _ _ _ h => h) fun x S1 v H1 I1 ⟨ys, e1, q⟩ hd1 s1 sl1 r => seq_run hd1 r e1 fun us l h2 nl => q l (hd1.freeS nl) _ _ _ (hd1.cell nl ⟨us, rfl, h2⟩) s1 rfl,
    fun ρ S Q Q' X X' hQ hX h => he.mono _ _ _ _ _ _ (fun x S1 ⟨ys, e1, q⟩ => ⟨ys, e1, fun p np => hQ _ _ (q p np)⟩) hX h⟩
theorem RepL.rev {I : Hp} : ∀ {xs : List Tr} {vs : List V}, RepL K I xs vs → RepL K I xs.reverse vs.reverse
  | [], _, h => by cases h; exact rfl
  | x :: xs, _, h => by
    obtain ⟨v, ws, rfl, h1, h2⟩ := h
    rw [List.reverse_cons, List.reverse_cons]
    exact RepL.app (RepL.rev h2) (.cons h1 rfl)
def uRev (te : UE) : UE := fun ρ S Q X => te ρ S (fun x S1 => ∃ xs, asL (vw S1 x) = some xs ∧ Q (.lst xs.reverse) S1) X
theorem e_rev {e : Expr} {te : UE} {k : Nat} {p1 p2 p3 pos : Pos} (he : TPE X W e te) : TPE X W (.Subscript e (.Slice none none (some (.UnaryOp .USub (.Constant (.int 1) k p1) p2)) p3) pos) (uRev te) :=
  ⟨wkE (pe_revL he.pe) fun σ H R ⟨L, F, S, I, ρ, hd, sl, h⟩ =>
    lE_then he.mono hd sl h (fun _ _ _ _ h => h) fun x S1 v H1 I1 ⟨xs, e1, q⟩ hd1 s1 sl1 r => by
      obtain ⟨a, us, rfl, h1, h2⟩ := asL_sq hd1 r e1
      exact ⟨a, us, rfl, h1, fun p np => q _ _ _ (hd1.imm np) (s1.trans (upd_sub (hd1.freeI np))) ⟨p, us.reverse, rfl, upd_same, (RepL.rev h2).mono (upd_sub (hd1.freeI np))⟩⟩,
    fun ρ S Q Q' X X' hQ hX h => he.mono _ _ _ _ _ _ (fun x S1 ⟨ys, e1, q⟩ => ⟨ys, e1, hQ _ _ q⟩) hX h⟩
/-- a constant of the module, by its tree -/
theorem e_gt {x : Str} {tr : Tr} {pos : Pos} (hg : Gl X x) (h : ∃ v u, X.mg x = some u ∧ RelV v u ∧ ∀ I, Rep X.K I tr v) (hd : (x == ("__debug__" : Str)) = false := by decide) : TPE X W (.Name x pos) (uC tr) := by
  obtain ⟨v, u, g, r, q⟩ := h
  exact e_const (pe_glob (v := v) hg g r hd) q
theorem tup_rep {a : Addr} {d : Option Addr} {n : Nat} {sl : Array (Option Value)} {us : List Value} {vs : List V} {xs : List Tr} (h : K.lookup a = some ⟨.type "tuple", d, .seq us.toArray n, sl⟩) (r : Vals vs us) (q : ∀ I, RepL K I xs vs) (l : us.toArray.size ≤ sizeLine) (I : Hp) : Rep K I (.tup xs) (.ref a) :=
  ⟨a, vs, rfl, .inr ⟨_, us.toArray, n, h, rfl, rfl, l, by simpa using r⟩, q I⟩
/-- x.pop(i) -/
def gPopAt (S : Sto) (xs ys xs' : List Tr) (z : Tr) : Prop := ∃ i : Int, ys = [.int i] ∧ 0 ≤ i ∧ i < 2 ^ 63 ∧ xs[i.toNat]? = some z ∧ xs' = xs.eraseIdx i.toNat
theorem RepL.erase {I : Hp} : ∀ {xs : List Tr} {vs : List V} (n : Nat), RepL K I xs vs → RepL K I (xs.eraseIdx n) (vs.eraseIdx n)
  | [], _, n, h => by cases h; exact rfl
  | x :: xs, _, 0, h => by obtain ⟨v, ws, rfl, h1, h2⟩ := h; exact h2
  | x :: xs, _, n + 1, h => by obtain ⟨v, ws, rfl, h1, h2⟩ := h; exact ⟨v, _, rfl, h1, RepL.erase n h2⟩
theorem m_popAt : MmT K rPopAt gPopAt := by
  intro L F H S I a xs ys xs' z vs R hd ea ry hg k
  obtain ⟨i, rfl, i0, i1, e, rfl⟩ := hg
  obtain ⟨v, rfl, r1⟩ := RepL.one ry
  cases r1
  obtain ⟨_, _, o, ho, us, rfl, rl⟩ := hd.cel a _ ea
  obtain ⟨v, ev, rv⟩ := rl.get' e
  have hl : i.toNat < us.length := (List.getElem?_eq_some_iff.mp ev).1
  exact ⟨a, us, i, i.toNat, v, rfl, rfl, ho, by omega, i1, by unfold seqIndex?; simp; omega, ev, k _ _ (hd.mut ea ⟨_, rfl, rl.erase _⟩) rv⟩
/-! ### x == [], x != [] (n), whatever x holds -/
def rNil (K : PySem.W.Frag) (n : Bool) : R2 := fun x y H Q => ∃ a b xs, x = .ref a ∧ y = .ref b ∧ SqL K H a xs ∧ SqL K H b [] ∧ Q (.bl (n ^^ xs.isEmpty)) H
theorem nil_ok {pins : List (Addr × Obj)} {σ : L2.St} {H : Hp} {s : Shared} {a : Addr} {xs : List V} (I : L2.Inv X pins σ H s) (h : SqL X.K H a xs) : ∃ its : List Value, its.length = xs.length ∧ s.heap.IsList a its.toArray := by
  obtain ⟨its, r, p, _⟩ := I.list h
  exact ⟨its, r.length.symm, p.isList⟩
theorem eqnil_op {k : Nat} (hr : Room k X.A) : OpR X (compareOp .Eq) (rNil X.K false) := by
  intro pins s σ H x y v u Q I rx ry h
  obtain ⟨a, b, xs, rfl, rfl, h1, h2, q⟩ := h
  cases rx
  cases ry
  obtain ⟨its, l1, p1⟩ := nil_ok I h1
  obtain ⟨jts, l2, p2⟩ := nil_ok I h2
  have hj : jts = [] := by cases jts with | nil => rfl | cons _ _ => cases l2
  subst hj
  cases xs with
  | nil =>
    have hi : its = [] := by cases its with | nil => rfl | cons _ _ => cases l1
    subst hi
    exact SeqAt.eq_listAt (e := fun _ => true) p1 p2 rfl hr.units0 (fun j h => absurd h (by simp)) ⟨.bl true, H, I, rfl, q⟩
  | cons z zs => exact SeqAt.eq_list_lengthsAt p1 p2 (by rw [List.size_toArray, l1]; rfl) hr.units0 ⟨.bl false, H, I, rfl, q⟩
theorem nenil_op {k : Nat} (hr : Room k X.A) : OpR X (compareOp .NotEq) (rNil X.K true) := by
  intro pins s σ H x y v u Q I rx ry h
  obtain ⟨a, b, xs, rfl, rfl, h1, h2, q⟩ := h
  cases rx
  cases ry
  obtain ⟨its, l1, p1⟩ := nil_ok I h1
  obtain ⟨jts, l2, p2⟩ := nil_ok I h2
  have hj : jts = [] := by cases jts with | nil => rfl | cons _ _ => cases l2
  subst hj
  cases xs with
  | nil =>
    have hi : its = [] := by cases its with | nil => rfl | cons _ _ => cases l1
    subst hi
    exact SeqAt.RcNeAt.lists (e := fun _ => true) p1 p2 rfl hr.units0 (fun j h => absurd h (by simp)) _ _ _ _ ⟨.bl false, H, I, rfl, q⟩
  | cons z zs => exact SeqAt.RcNeAt.lists_lengths p1 p2 (by rw [List.size_toArray, l1]; rfl) hr.units0 _ _ _ _ ⟨.bl true, H, I, rfl, q⟩
def gNil (n : Bool) (x y z : Tr) : Prop := y = .lst [] ∧ ∃ xs, asL x = some xs ∧ z = .bl (n ^^ xs.isEmpty)
theorem o_nil {n : Bool} : OpT K (rNil K n) (gNil n) := by
  intro L F H S I x y z v w R hd rx ry hg k
  obtain ⟨e2, xs, e1, rfl⟩ := hg
  obtain ⟨a, us, rfl, h1, h2⟩ := asL_sq hd rx e1
  obtain ⟨b, ws, rfl, h3, h4⟩ := asL_sq hd ry (by rw [e2]; rfl)
  cases h4
  have e : us.isEmpty = xs.isEmpty := by have := h2.len; cases us <;> cases xs <;> first | rfl | cases this
  exact ⟨a, b, us, rfl, rfl, h1, h3, by rw [e]; exact k _ H I hd (Same.refl _) rfl⟩
/-! ### text * int -/
def rMl2 : R2 := fun x y H Q => KB.rMl x y H Q ∨ ∃ z n, x = .str z ∧ y = .int n ∧ MulOk z n ∧ Q (.str (Txt.mul z n)) H
theorem ml2_op : OpR X (binaryOp .Mult) rMl2 := by
  refine OpR.or KB.ml_any ?_
  intro pins s σ H x y v u Q I rx ry h
  obtain ⟨z, n, rfl, rfl, hz, q⟩ := h
  obtain ⟨t, rfl⟩ := rx
  obtain ⟨t', rfl⟩ := ry
  exact SB.mul hz fun t' k => ⟨.str (Txt.mul z n), H, I.tok _, ⟨_, rfl⟩, q⟩
def gMul2 (x y z : Tr) : Prop := match x, y with
  | .str a, .int n => MulOk a n ∧ z = .str (Txt.mul a n)
  | x, y => gMul x y z
theorem o_mul2 : OpT K rMl2 gMul2 := by
  intro L F H S I x y z v w R hd rx ry hg k
  unfold gMul2 at hg
  split at hg
  · rename_i a n e1 e2
    cases vw_eq_str hd rx e1
    cases vw_eq_int hd ry e2
    obtain ⟨c, rfl⟩ := hg
    exact .inr ⟨a, n, rfl, rfl, c, k _ H I hd (Same.refl _) rfl⟩
  · exact .inl (o_mul hd rx ry hg k)
theorem foldl_app (n : Nat) (x a : Array Nat) : ((List.replicate n x).foldl (· ++ ·) a).size = a.size + n * x.size ∧ ∀ c ∈ (List.replicate n x).foldl (· ++ ·) a, c ∈ a ∨ c ∈ x := by
  induction n generalizing a with
  | zero => exact ⟨by simp, fun c h => .inl h⟩
  | succ n ih =>
    rw [List.replicate_succ, List.foldl_cons]
    obtain ⟨h1, h2⟩ := ih (a ++ x)
    refine ⟨by rw [h1, Array.size_append, Nat.succ_mul]; omega, fun c h => ?_⟩
    rcases h2 c h with h | h
    · rcases Array.mem_append.mp h with h | h
      · exact .inl h
      · exact .inr h
    · exact .inr h
theorem tmul_len {z : Str} {n : Int} (h : 1 ≤ n) : (Txt.mul z n).length = n.toNat * z.length := by
  unfold Txt.mul
  rw [if_neg (by omega)]
  split
  · rename_i e
    rcases Bool.or_eq_true _ _ |>.mp e with e | e
    · have : n = 1 := by simpa using e
      subst this; simp
    · have : z.length = 0 := by simpa using e
      rw [this]; simp
  · have := (foldl_app n.toNat z.cps #[]).1
    simpa [Str.length] using this
theorem tmul_pr {z : Str} {n : Int} (h : KB.Pr z) : KB.Pr (Txt.mul z n) := by
  unfold Txt.mul
  split
  · intro c hc; simp [Str.empty] at hc
  · split
    · exact h
    · intro c hc
      rcases (foldl_app n.toNat z.cps #[]).2 c (by simpa [tl] using hc) with h1 | h1
      · simp at h1
      · exact h c (by simpa [tl] using h1)
end
end KQ
/-! ### enumerate(a tuple) -/
namespace KQ
open PySem PySem.Spec PyProof.Rows L2 TL KB
theorem meets_enumT (l : Addr) (items : Array Value) : Meets (Builtin.«enumerate.__new__» ⟨[.type "enumerate", .ref l], []⟩) (fun _ R s => s.heap.IsTuple l items ∧
      R (.ok (.ret (.ref (s.heap.push { cls := .type "tuple_iterator", data := .fields #[.ref l, .int 0 0] }).objs.size)))
        { s with heap := (s.heap.push { cls := .type "tuple_iterator", data := .fields #[.ref l, .int 0 0] }).push { cls := .type "enumerate", data := .fields #[.none, .bool false, .ref s.heap.objs.size, rawInt 0, .none, .none] } }) :=
  .of_wp fun prog w A R s h => by
    obtain ⟨hp, g, d, tk, os⟩ := s; obtain ⟨hL, h⟩ := h
    have hsub := sub_enumerate
    have hL : Heap.IsTuple (Shared.heap ⟨hp, g, d, tk, os⟩) l items := hL
    wp_walk
    refine wpAny_stack_any fun st => wpAny_pure ?_
    split
    · rename_i c _ _ _ _ _
      cases (c == Value.type "enumerate")
      · wp_walk using wpAny_pyIter_tuple hL
        exact ⟨_, rfl, h⟩
      · wp_walk using wpAny_pyIter_tuple hL
        exact ⟨_, rfl, h⟩
    · wp_walk using wpAny_pyIter_tuple hL
      exact ⟨_, rfl, h⟩
theorem call_enumT {prog : Program} {w : World} {A : Around} {E : Value → Shared → Prop} {s : Shared} {l : Addr} {items : Array Value} {Q : Value → Shared → Prop} (hL : s.heap.IsTuple l items)
    (h : ∀ h', IsEnum h' (s.heap.objs.size + 1) s.heap.objs.size 0 .none → h'.IsTupleIter s.heap.objs.size l 0 → h'.objs.size = s.heap.objs.size + 2 →
      (∀ b o, s.heap.get? b = some o → h'.get? b = some o) → Q (.ref (s.heap.objs.size + 1)) { s with heap := h' }) :
    wpAny (model prog w) A (call (.type "enumerate") [.ref l]) Q E s := by
  refine callType_new F.called_enumerate (by decide) (F.typeCall_enumerate_1 _) (F.newCall_enumerate_1 _) (fun obj => F.args_object_init_2 obj _) F.entry_enumerate_new
    (meets_enumT l items) ⟨hL, ?_⟩
  have hz : (s.heap.push { cls := .type "tuple_iterator", data := .fields #[.ref l, .int 0 0] }).objs.size = s.heap.objs.size + 1 := Heap.size_push ..
  show _ ∧ _
  rw [hz]
  have he : IsEnum ((s.heap.push { cls := .type "tuple_iterator", data := .fields #[.ref l, .int 0 0] }).push
      { cls := .type "enumerate", data := .fields #[.none, .bool false, .ref s.heap.objs.size, rawInt 0, .none, .none] }) (s.heap.objs.size + 1) s.heap.objs.size 0 .none := by
    have := Heap.get?_push_size (s.heap.push { cls := .type "tuple_iterator", data := .fields #[.ref l, .int 0 0] })
      (o := { cls := .type "enumerate", data := .fields #[.none, .bool false, .ref s.heap.objs.size, rawInt 0, .none, .none] }) rfl
    rw [hz] at this; exact this
  refine ⟨⟨_, he, rfl⟩, h _ he ⟨_, Heap.get?_push_of_some _ (Heap.get?_push_size _ rfl), rfl, rfl⟩ (by rw [Heap.size_push, hz]) fun b o x => Heap.get?_push_of_some _ (Heap.get?_push_of_some _ x)⟩
/-- the tuple at a, each item in a new pair -/
def IteT (K : PySem.W.Frag) (a : Addr) : It :=
  ⟨fun i H => ∃ (xs : List V) (x : V), SqT K H a xs ∧ xs[i]? = some x, fun i H v H' => ∃ T x, v = .ref T ∧ H T = none ∧ H' = upd H T (.tup [.int (i : Nat), x]) ∧ ∀ xs, SqT K H a xs → xs[i]? = some x, fun i H => ∃ xs : List V, SqT K H a xs ∧ xs.length = i⟩
theorem turn_enumT {P : Program} {w : World} {K : PySem.W.Frag} {elts : List Expr} {kk : Nat} {tpos : Pos} (a e it : Addr) (hea : e ≠ a) (hia : a ≠ it) :
    Turn P w K (.Tuple elts kk tpos) (IteT K a) [e, it] e (fun i h => (∃ old, IsEnum h e it ((i : Nat) : Int) old) ∧ h.IsTupleIter it a i ∧ e ≠ it) where
  mem := by simp
  obj := fun i h st b hb => by
    obtain ⟨⟨old, he⟩, ⟨o, ho, hc, hd⟩, _⟩ := st
    have e' : b = e ∨ b = it := by simpa using hb
    rcases e' with z | z
    · rw [z]; exact ⟨_, he, fun v q => nomatch q⟩
    · rw [z]; exact ⟨o, ho, fun v q => by rw [hd] at q; cases q⟩
  keep := fun i h h' st k => let ⟨⟨old, he⟩, hi, hne⟩ := st; ⟨⟨old, k e (by simp) _ he⟩, hi.at fun o q => k it (by simp) o q, hne⟩
  item := by
    intro X hP hw hK hc i pins s σ H E I hf st hg
    subst hP hw hK
    obtain ⟨⟨old, he⟩, hit, hne⟩ := st
    obtain ⟨xs, x, hq, hx⟩ := hg
    obtain ⟨its, rv, p, hz⟩ := I.tuple hq
    obtain ⟨u, hu, ru⟩ := rv.get hx
    have hel : e < s.heap.objs.size := Heap.lt_size he
    have hil : it < s.heap.objs.size := by obtain ⟨_, q, _⟩ := hit; exact Heap.lt_size q
    have hlt : i < its.toArray.size := by rw [List.size_toArray]; exact (List.getElem?_eq_some_iff.mp hu).1
    refine wpAny_pyNext_enum_itemC (Draws.tuple (prog := X.prog) (w := X.w) (A := X.A.in1) (I.ok.hd hc) it a hia its.toArray) he ⟨hit, p⟩ hlt hne (by simp [hne, hea]) fun x' h' tk hP ho hit' hT hsz hk => ?_
    have ex : x' = u := by
      have hP : its.toArray[i]? = some x' := hP
      rw [List.getElem?_toArray, hu] at hP
      exact (Option.some.inj hP).symm
    subst ex
    refine ⟨_, rfl, wpAny_letOwnedTupleGo_enum (s := { s with heap := h', toks := tk + 1 }) ho fun h'' he' sb => ?_⟩
    have hT2 : h''.get? s.heap.objs.size = some { cls := .type "tuple", data := .seq #[.int i tk, x'] } := (sb.2 _ (Nat.ne_of_gt hel)).trans hT
    have new : ObjOk X.prog X.w (upd H s.heap.objs.size (.tup [.int (i : Nat), x])) h'' s.heap.objs.size (.tup [.int (i : Nat), x]) :=
      ⟨by show 2 ≤ sizeLine; decide, [.int i tk, x'], .cons ⟨_, rfl⟩ (.cons ru .nil), ⟨_, hT2, rfl, _, rfl⟩⟩
    have I1 : L2.Inv X pins σ (upd H s.heap.objs.size (.tup [.int (i : Nat), x])) { s with heap := h'', toks := tk + 1 } :=
      I.turnedNew (ch := [e, it]) (fun b ob hb q => (sb.2 b (fun z => hb (by simp [z]))).trans (hk b ob (fun z => hb (by simp [z])) (fun z => hb (by simp [z])) q)) hf (Nat.le_refl _) new
    refine ⟨.ref s.heap.objs.size, _, I1, rfl, ⟨_, x, rfl, I.hok.fresh (Nat.le_refl _), rfl, fun ys hy => by rw [I.tuple_inj hy hq]; exact hx⟩, ⟨⟨x', ?_⟩, hit'.1.at fun o q => (sb.2 it (Ne.symm hne)).trans q, hne⟩, fun b hb => ?_⟩
    · have e1 : ((i + 1 : Nat) : Int) = (i : Int) + 1 := by omega
      rw [e1]; exact he'
    · have hb' : b < s.heap.objs.size := by
        have e' : b = e ∨ b = it := by simpa using hb
        rcases e' with z | z
        · rw [z]; exact hel
        · rw [z]; exact hil
      rw [upd_ne (Nat.ne_of_lt hb')]
      exact (hf b hb).1
  done := by
    intro X hP hw hK hc i pins s σ H E I hf st hg
    subst hP hw hK
    obtain ⟨⟨old, he⟩, hit, hne⟩ := st
    obtain ⟨xs, hq, hx⟩ := hg
    obtain ⟨its, rv, p, hz⟩ := I.tuple hq
    obtain ⟨f0, f1, f2, f3, f4, f5⟩ := hf it (by simp)
    have ei : its.toArray.size = i := by rw [List.size_toArray, ← rv.length]; exact hx
    exact wpAny_pyNext_enum_endD (Draws.tuple (prog := X.prog) (w := X.w) (A := X.A.in1) (I.ok.hd hc) it a hia its.toArray) he ⟨by rw [ei]; exact hit, p⟩ fun h' eb => ⟨rfl, I.turned (t' := s.toks) (fun b o hb q => eb b o hb q) f0 f1 f3 f4 f5⟩
  self := fun A i s Q E st h => let ⟨⟨_, he⟩, _⟩ := st; wpAny_pyIter_enum he h
def iEnum2 (K : PySem.W.Frag) (ta : TA) : TI := fun σ H R => ta σ H fun vs H1 => ∃ a, vs = [.ref a] ∧ ((∃ xs, SqL K H1 a xs ∧ R (Ite K a) H1) ∨ ∃ xs, SqT K H1 a xs ∧ R (IteT K a) H1)
theorem pi_enum2 {X : Cx} {e : Expr} {ta : TA} {p pos tpos : Pos} {elts : List Expr} {kk : Nat} (hg : Gl X "enumerate") (hm : X.mg "enumerate" = none) (ha : PA X [e] ta) (hs : starEach [e] X.env = [(false, eval e X.env)] := by rfl) :
    PI X (.Tuple elts kk tpos) (.Call (.Name "enumerate" p) [e] [] pos) (iEnum2 X.K ta) := by
  refine ⟨fun pins s σ H R I h => ?_⟩
  refine Call_ (ld_blt I hg hm boot_enumerate (PyProof.Rows.callWith_type1 (thn (ha.run pos pins s σ H _ I h) fun us s1 ⟨vs, H1, I1, r1, q1⟩ => ?_) hs rfl))
  obtain ⟨a, ex, q⟩ := q1
  subst ex
  have fp : ∀ b, b ∈ [s1.heap.objs.size + 1, s1.heap.objs.size] → FpOk X pins H1 b := fun b hb => by
    have e' : b = s1.heap.objs.size + 1 ∨ b = s1.heap.objs.size := by simpa using hb
    have hle : s1.heap.objs.size ≤ b := by
      rcases e' with z | z
      · rw [z]; exact Nat.le_add_right _ _
      · rw [z]; exact Nat.le_refl _
    exact I1.fpOk hle (I1.hok.fresh hle)
  cases r1 with
  | cons r rr =>
    cases rr
    cases r
    rcases q with ⟨xs, hq, q⟩ | ⟨xs, hq, q⟩
    · obtain ⟨its, rv, p', hz⟩ := I1.list hq
      refine call_enumerate_list p'.isList fun h' he hit hsz hk => wpAny_pyIter_enum he ?_
      have I2 : L2.Inv X pins σ H1 { s1 with heap := h' } := I1.kept (t' := s1.toks) hk
      exact ⟨s1.heap.objs.size + 1, [s1.heap.objs.size + 1, s1.heap.objs.size], _, _, H1, rfl, I2, turn_enum a (s1.heap.objs.size + 1) s1.heap.objs.size, ⟨⟨.none, he⟩, hit, Nat.succ_ne_self _⟩, fp, q⟩
    · obtain ⟨its, rv, p', hz⟩ := I1.tuple hq
      have hal : a < s1.heap.objs.size := IsTup.lt p'
      refine call_enumT p' fun h' he hit hsz hk => wpAny_pyIter_enum he ?_
      have I2 : L2.Inv X pins σ H1 { s1 with heap := h' } := I1.kept (t' := s1.toks) hk
      exact ⟨s1.heap.objs.size + 1, [s1.heap.objs.size + 1, s1.heap.objs.size], _, _, H1, rfl, I2, turn_enumT a (s1.heap.objs.size + 1) s1.heap.objs.size (Nat.ne_of_gt (Nat.lt_succ_of_lt hal)) (Nat.ne_of_lt hal), ⟨⟨.none, he⟩, hit, Nat.succ_ne_self _⟩, fp, q⟩
/-- enumerate(x), x a list or a tuple -/
def uEnum2 (ta : UA) : UI := fun ρ S R X => ta ρ S (fun ys S1 => ∃ x xs, ys = [x] ∧ (asL (vw S1 x) = some xs ∨ vw S1 x = .tup xs) ∧ R ⟨enumT 0 xs, fun S' => vw S' x = vw S1 x⟩ S1) X
theorem i_enum2 {X : Cx} {W : WX} {e : Expr} {ta : UA} {p pos : Pos} {elts : List Expr} {kk : Nat} {tpos : Pos} (hg : Gl X "enumerate") (hm : X.mg "enumerate" = none) (ha : TPA X W [e] ta) (hs : starEach [e] X.env = [(false, eval e X.env)] := by rfl) : TPI X W (.Tuple elts kk tpos) (.Call (.Name "enumerate" p) [e] [] pos) (uEnum2 ta) :=
  ⟨wkI (pi_enum2 hg hm ha.pe hs) fun σ H R ⟨L, F, S, I, ρ, hd, sl, h⟩ => lA_then ha.mono hd sl h (fun _ _ _ _ h => h) fun ys S1 vs H1 I1 ⟨x, xs, e, ex, q⟩ hd1 s1 sl1 r => by
    subst e
    obtain ⟨v, rfl, r1⟩ := RepL.one r
    rcases ex with ex | ex
    · obtain ⟨a, us, rfl, h1, h2⟩ := asL_sq hd1 r1 ex
      refine ⟨a, rfl, .inl ⟨us, h1, q _ H1 I1 hd1 s1 ⟨fun F i H S' I' hd' s' hok hi => ?_, fun F i H S' I' hd' s' hok hi => ?_, fun F i H S' I' w H' y hd' s' hok hi hy => ?_⟩⟩⟩
      · obtain ⟨b, ws, eb, h3, h4⟩ := asL_sq (x := x) hd' (r1.mono s') (by rw [hok]; exact ex)
        cases eb
        have hl : i < ws.length := by rw [h4.len, ← enumT_len xs 0]; exact hi
        exact ⟨ws, ws[i], h3, List.getElem?_eq_getElem hl⟩
      · obtain ⟨b, ws, eb, h3, h4⟩ := asL_sq (x := x) hd' (r1.mono s') (by rw [hok]; exact ex)
        cases eb
        have hi' : i = (enumT 0 xs).length := hi
        rw [enumT_len] at hi'
        exact ⟨ws, h3, by rw [h4.len]; omega⟩
      · obtain ⟨b, ws, eb, h3, h4⟩ := asL_sq (x := x) hd' (r1.mono s') (by rw [hok]; exact ex)
        cases eb
        obtain ⟨T, z, rfl, nT, rfl, hz⟩ := hy
        obtain ⟨y0, e0, rfl⟩ := enumT_get xs 0 i y hi
        obtain ⟨u, eu, ru⟩ := h4.get' e0
        have ez := hz ws h3
        rw [eu] at ez
        cases ez
        exact ⟨_, hd'.imm nT, upd_sub (hd'.freeI nT), ⟨T, _, rfl, .inl (.inl upd_same), .cons (by rw [Nat.zero_add]; rfl) (.cons (ru.mono (upd_sub (hd'.freeI nT))) rfl)⟩⟩
    · obtain ⟨a, us, rfl, h1, h2⟩ := vw_tup hd1 r1 ex
      refine ⟨a, rfl, .inr ⟨us, h1, q _ H1 I1 hd1 s1 ⟨fun F i H S' I' hd' s' hok hi => ?_, fun F i H S' I' hd' s' hok hi => ?_, fun F i H S' I' w H' y hd' s' hok hi hy => ?_⟩⟩⟩
      · obtain ⟨b, ws, eb, h3, h4⟩ := vw_tup (x := x) hd' (r1.mono s') (by rw [hok]; exact ex)
        cases eb
        have hl : i < ws.length := by rw [h4.len, ← enumT_len xs 0]; exact hi
        exact ⟨ws, ws[i], h3, List.getElem?_eq_getElem hl⟩
      · obtain ⟨b, ws, eb, h3, h4⟩ := vw_tup (x := x) hd' (r1.mono s') (by rw [hok]; exact ex)
        cases eb
        have hi' : i = (enumT 0 xs).length := hi
        rw [enumT_len] at hi'
        exact ⟨ws, h3, by rw [h4.len]; omega⟩
      · obtain ⟨b, ws, eb, h3, h4⟩ := vw_tup (x := x) hd' (r1.mono s') (by rw [hok]; exact ex)
        cases eb
        obtain ⟨T, z, rfl, nT, rfl, hz⟩ := hy
        obtain ⟨y0, e0, rfl⟩ := enumT_get xs 0 i y hi
        obtain ⟨u, eu, ru⟩ := h4.get' e0
        have ez := hz ws h3
        rw [eu] at ez
        cases ez
        exact ⟨_, hd'.imm nT, upd_sub (hd'.freeI nT), ⟨T, _, rfl, .inl (.inl upd_same), .cons (by rw [Nat.zero_add]; rfl) (.cons (ru.mono (upd_sub (hd'.freeI nT))) rfl)⟩⟩,
   fun ρ S Q Q' X X' hQ hX h => ha.mono _ _ _ _ _ _ (fun ys S1 ⟨x, xs, e1, e2, q⟩ => ⟨x, xs, e1, e2, hQ _ _ q⟩) hX h⟩
end KQ
namespace KQ
open PySem PySem.Spec PyProof.Rows L2 TL KB
/-! ### zip of two lists or of two tuples -/
def zipT (xs ys : List Tr) : List Tr := List.zipWith (fun x y => Tr.tup [x, y]) xs ys
theorem zipT_get {xs ys : List Tr} {i : Nat} {z : Tr} (h : (zipT xs ys)[i]? = some z) : ∃ x y, xs[i]? = some x ∧ ys[i]? = some y ∧ z = .tup [x, y] := by
  unfold zipT at h
  rw [List.getElem?_zipWith] at h
  cases e : xs[i]? with
  | none => rw [e] at h; cases h
  | some x =>
    cases f : ys[i]? with
    | none => rw [e, f] at h; cases h
    | some y =>
      rw [e, f] at h
      cases h
      exact ⟨x, y, rfl, rfl, rfl⟩
theorem zipT_len {xs ys : List Tr} : (zipT xs ys).length = min xs.length ys.length := by unfold zipT; exact List.length_zipWith
def uZip (ta : UA) : UI := fun ρ S R X => ta ρ S (fun us S1 => ∃ x y xs ys, us = [x, y] ∧ ((asL (vw S1 x) = some xs ∧ asL (vw S1 y) = some ys) ∨ (vw S1 x = .tup xs ∧ vw S1 y = .tup ys)) ∧ R ⟨zipT xs ys, fun S' => vw S' x = vw S1 x ∧ vw S' y = vw S1 y⟩ S1) X
theorem i_zip {X : Cx} {W : WX} {e e2 : Expr} {ta : UA} {p pos : Pos} {elts : List Expr} {kk : Nat} {tpos : Pos} (hg : Gl X "zip") (hm : X.mg "zip" = none) (ha : TPA X W [e, e2] ta) (hs : starEach [e, e2] X.env = (false, eval e X.env) :: starEach [e2] X.env := by rfl) (hpl : (backTo pos (starEach [e2] X.env)).any (·.1) = false := by rfl) :
    TPI X W (.Tuple elts kk tpos) (.Call (.Name "zip" p) [e, e2] [] pos) (uZip ta) :=
  ⟨wkI (RZ.pi_zipA hg hm ha.pe hs hpl) fun σ H R ⟨L, F, S, I, ρ, hd, sl, h⟩ => lA_then ha.mono hd sl h (fun _ _ _ _ h => h) fun us S1 vs H1 I1 ⟨x, y, xs, ys, ex, c, q⟩ hd1 s1 sl1 r => by
    subst ex
    obtain ⟨v, ws, rfl, r1, r2⟩ := r
    obtain ⟨u, rfl, r3⟩ := RepL.one r2
    rcases c with ⟨cx, cy⟩ | ⟨cx, cy⟩
    · obtain ⟨a, us, rfl, h1, h2⟩ := asL_sq hd1 r1 cx
      obtain ⟨b, ws, rfl, g1, g2⟩ := asL_sq hd1 r3 cy
      refine ⟨a, b, us, ws, rfl, .inl ⟨h1, g1, q _ H1 I1 hd1 s1 ⟨fun F i H S' I' hd' s' hok hi => ?_, fun F i H S' I' hd' s' hok hi => ?_, fun F i H S' I' w H' z hd' s' hok hi hy => ?_⟩⟩⟩
      all_goals
        obtain ⟨a', us', ea, k1, k2⟩ := asL_sq (x := x) hd' (r1.mono s') (by rw [hok.1]; exact cx)
        cases ea
        obtain ⟨b', ws', eb, l1, l2⟩ := asL_sq (x := y) hd' (r3.mono s') (by rw [hok.2]; exact cy)
        cases eb
      · have hi : i < (zipT xs ys).length := hi
        rw [zipT_len, ← k2.len, ← l2.len] at hi
        exact ⟨us', ws', us'[i]'(by omega), ws'[i]'(by omega), k1, l1, List.getElem?_eq_getElem (by omega), List.getElem?_eq_getElem (by omega)⟩
      · have hi : i = (zipT xs ys).length := hi
        rw [zipT_len, ← k2.len, ← l2.len] at hi
        exact ⟨us', ws', k1, l1, by omega⟩
      · obtain ⟨T, p, q, rfl, nT, rfl, hp, hq⟩ := hy
        obtain ⟨x0, y0, e1, e2, rfl⟩ := zipT_get hi
        obtain ⟨v1, m1, n1⟩ := k2.get' e1
        obtain ⟨v2, m2, n2⟩ := l2.get' e2
        have z1 := hp us' k1
        have z2 := hq ws' l1
        rw [m1] at z1
        rw [m2] at z2
        cases z1
        cases z2
        exact ⟨_, hd'.imm nT, upd_sub (hd'.freeI nT), ⟨T, _, rfl, .inl (.inl upd_same), .cons (n1.mono (upd_sub (hd'.freeI nT))) (.cons (n2.mono (upd_sub (hd'.freeI nT))) rfl)⟩⟩
    · obtain ⟨a, us, rfl, h1, h2⟩ := vw_tup hd1 r1 cx
      obtain ⟨b, ws, rfl, g1, g2⟩ := vw_tup hd1 r3 cy
      refine ⟨a, b, us, ws, rfl, .inr ⟨h1, g1, q _ H1 I1 hd1 s1 ⟨fun F i H S' I' hd' s' hok hi => ?_, fun F i H S' I' hd' s' hok hi => ?_, fun F i H S' I' w H' z hd' s' hok hi hy => ?_⟩⟩⟩
      all_goals
        obtain ⟨a', us', ea, k1, k2⟩ := vw_tup (x := x) hd' (r1.mono s') (by rw [hok.1]; exact cx)
        cases ea
        obtain ⟨b', ws', eb, l1, l2⟩ := vw_tup (x := y) hd' (r3.mono s') (by rw [hok.2]; exact cy)
        cases eb
      · have hi : i < (zipT xs ys).length := hi
        rw [zipT_len, ← k2.len, ← l2.len] at hi
        exact ⟨us', ws', us'[i]'(by omega), ws'[i]'(by omega), k1, l1, List.getElem?_eq_getElem (by omega), List.getElem?_eq_getElem (by omega)⟩
      · have hi : i = (zipT xs ys).length := hi
        rw [zipT_len, ← k2.len, ← l2.len] at hi
        exact ⟨us', ws', k1, l1, by omega⟩
      · obtain ⟨T, p, q, rfl, nT, rfl, hp, hq⟩ := hy
        obtain ⟨x0, y0, e1, e2, rfl⟩ := zipT_get hi
        obtain ⟨v1, m1, n1⟩ := k2.get' e1
        obtain ⟨v2, m2, n2⟩ := l2.get' e2
        have z1 := hp us' k1
        have z2 := hq ws' l1
        rw [m1] at z1
        rw [m2] at z2
        cases z1
        cases z2
        exact ⟨_, hd'.imm nT, upd_sub (hd'.freeI nT), ⟨T, _, rfl, .inl (.inl upd_same), .cons (n1.mono (upd_sub (hd'.freeI nT))) (.cons (n2.mono (upd_sub (hd'.freeI nT))) rfl)⟩⟩,
   fun ρ S Q Q' X X' hQ hX h => ha.mono _ _ _ _ _ _ (fun us S1 ⟨x, y, xs, ys, e1, e2, q⟩ => ⟨x, y, xs, ys, e1, e2, hQ _ _ q⟩) hX h⟩
end KQ
namespace KQ
open PySem PySem.Spec PyProof.Rows L2 TL KB
/-! ### f'{x:<16}' and f'{n:>8,}' -/
def padR (x : PySem.Str) (n : Nat) : PySem.Str := x ++ ⟨(List.replicate (n - x.length) 32).toArray⟩
theorem padR_len (x : PySem.Str) (n : Nat) : (padR x n).length = max n x.length := by
  unfold padR
  rw [len_app, show (⟨(List.replicate (n - x.length) 32).toArray⟩ : PySem.Str).length = n - x.length by simp [Str.length]]
  omega
open PySem.Builtin PySem.Builtin.Str in
theorem fld_s {prog : Program} {w : World} {A : Around} {E : Value → Shared → Prop} {s : Shared} {t : Tok} {x : PySem.Str} {Q : Value → Shared → Prop} (hx : x.length ≤ 1000)
  (h : ∀ t' k, Q (.str (padR x 16) t') { s with toks := k }) : wpAny (model prog w) A (formatField (.str x t) (PySem.Str.ofString "<16")) Q E s := by
  refine PySem.W.KXf.field_str (y := padR x 16) rfl rfl (by decide +kernel) (by decide +kernel) ?_ h
  intro _
  apply PySem.W.KPc.meets_of
  intro _ _ _ s1 Q1 _ hk
  unfold Builtin.«str.__format__»
  refine wpAny_bind (wpAny_of_eq (a := (_, _, _)) rfl ?_)
  refine wpAny_bind (wpAny_of_eq (a := some _) rfl ?_)
  refine wpAny_ite (PySem.W.KPc.ite_no (by decide +kernel) ?_)
  refine wpAny_ite (PySem.W.KPc.ite_no (by decide +kernel) ?_)
  refine wpAny_bind (PySem.W.KXf.cut_str ?_)
  have hp : Float.parseFormatSpec (PySem.Str.ofString "<16").cps.toList "str" 60 = .ok ⟨32, 60, none, false, false, some 16, none, none, none⟩ := by kernel_rfl
  rw [hp]
  have hs : strField x ⟨32, 60, none, false, false, some 16, none, none, none⟩ "str" = .ok (if 16 ≤ x.length then none else some (padded x 0 (16 - x.length) 32)) := by
    unfold strField
    by_cases hl : 16 ≤ x.length
    · simp [hl]
      rfl
    · simp [hl, strSub_whole]
      rfl
  have e : (do
      let f ← (Except.ok ⟨32, 60, none, false, false, some 16, none, none, none⟩ : Except String Float.FormatSpec)
      let f := if (f.type.isNone && (PySem.Str.ofString "<16").cps.back? == some 0) = true then { f with type := some 0 } else f
      if tooLong (f.width.getD 0) = true then pure none else pure (some (← strField x f "str"))) = Except.ok (some (if 16 ≤ x.length then none else some (padded x 0 (16 - x.length) 32))) := by
    show (do let y ← strField x ⟨32, 60, none, false, false, some 16, none, none, none⟩ "str"; pure (some y)) = _
    rw [hs]; rfl
  dsimp only at e ⊢
  rw [e]
  by_cases hl : 16 ≤ x.length
  · rw [if_pos hl]
    refine wpAny_bind (wpAny_rule ?_)
    refine PySem.W.KXf.ret_same ?_ hk
    unfold padR
    rw [Nat.sub_eq_zero_of_le hl]
    exact ext_tl (by rw [tl_append, tl_mk]; simp)
  · rw [if_neg hl]
    have ep : padded x 0 (16 - x.length) 32 = padR x 16 := ext_tl (by rw [padR, tl_append, tl_mk]; exact padded_list _ _ _ _)
    refine PySem.W.KXf.ret_text ep ?_ hk
    rw [ep, padR_len]
    exact Nat.le_of_lt (KB.sizeN (by omega))
def digs (a : Int) : List Nat := (Nat.toDigits 10 a.natAbs).map Char.toNat
def grp (ds : List Nat) : List Nat := groupsFromRight' 3 44 (ds.length + 1) ds.reverse 0 []
def numT (a : Int) : PySem.Str := ⟨(List.replicate (8 - (grp (digs a)).length) 32 ++ grp (digs a)).toArray⟩
theorem grp_any {g : Nat → Nat → Nat → List Nat → Int → List Nat → List Nat} {size sep : Nat} (h0 : ∀ d r o, g size sep 0 d r o = o)
    (h1 : ∀ t d r o, g size sep (t + 1) d r o = (let n := min size (max (max (d.length : Int) r) 1).toNat
      let out := List.replicate (n - d.length) 48 ++ (d.take n).reverse ++ o
      if ((d.drop n).isEmpty && decide (r - n ≤ 0)) = true then out else g size sep t (d.drop n) (r - n - 1) (sep :: out))) :
    ∀ t d r o, g size sep t d r o = groupsFromRight' size sep t d r o
  | 0, d, r, o => h0 d r o
  | t + 1, d, r, o => by
    rw [h1]
    unfold groupsFromRight'
    dsimp only
    split
    · rfl
    · exact grp_any h0 h1 t _ _ _
theorem fld_txt {g : Nat → Nat → Nat → List Nat → Int → List Nat → List Nat} {a : Int} {F : PySem.Str}
    (e : F = (let X := if ((Nat.toDigits 10 a.natAbs).map Char.toNat).isEmpty then [] else g 3 44 (((Nat.toDigits 10 a.natAbs).map Char.toNat).length + (0 : Int).toNat + 1) ((Nat.toDigits 10 a.natAbs).map Char.toNat).reverse 0 []
      ⟨(List.replicate ((((8 : Nat) : Int) - (((0 : Nat) : Int) + ((0 : Nat) : Int) + ((0 : Nat) : Int)) - (X.length : Int)).toNat) 32 ++ [] ++ [] ++ List.replicate 0 32 ++ X ++ [] ++ List.replicate 0 32).toArray⟩))
    (hg : ∀ t d r o, g 3 44 t d r o = groupsFromRight' 3 44 t d r o) : F = numT a := by
  subst e
  dsimp only
  rw [hg]
  have hne : ((Nat.toDigits 10 a.natAbs).map Char.toNat).isEmpty = false := by
    cases h : Nat.toDigits 10 a.natAbs with
    | nil => exact absurd h (Nat.toDigits_ne_nil)
    | cons _ _ => rfl
  rw [hne]
  unfold numT grp digs
  simp only [Bool.false_eq_true, if_false, List.append_nil, List.replicate_zero]
  simp only [Int.toNat_zero, Nat.add_zero]
  generalize groupsFromRight' 3 44 ((List.map Char.toNat (Nat.toDigits 10 a.natAbs)).length + 1) (List.map Char.toNat (Nat.toDigits 10 a.natAbs)).reverse 0 [] = G
  have e : (((8 : Nat) : Int) - (((0 : Nat) : Int) + ((0 : Nat) : Int) + ((0 : Nat) : Int)) - (G.length : Int)).toNat = 8 - G.length := by omega
  rw [e]
open PySem.Builtin PySem.Builtin.Int in
theorem fld_i {prog : Program} {w : World} {A : Around} {E : Value → Shared → Prop} {s : Shared} {t : Tok} {a : Int} {Q : Value → Shared → Prop} (h0 : 0 ≤ a) (hd : a.natAbs.log2 < 1920) (hl : (numT a).length ≤ sizeLine)
  (h : ∀ t' k, Q (.str (numT a) t') { s with toks := k }) : wpAny (model prog w) A (formatField (.int a t) (PySem.Str.ofString ">8,")) Q E s := by
  refine PySem.W.KXf.field_int (y := numT a) rfl (by decide +kernel) (by decide +kernel) ?_ h
  intro _
  apply PySem.W.KPc.meets_of
  intro _ _ _ s1 Q1 _ hk
  unfold Builtin.«int.__format__»
  refine wpAny_bind (wpAny_of_eq (a := (_, _)) rfl ?_)
  refine wpAny_bind (wpAny_of_eq (a := _) rfl ?_)
  refine wpAny_ite (PySem.W.KPc.ite_no (fun z => Bool.noConfusion z) ?_)
  refine wpAny_bind (wpAny_typeNameOf (T := "str") (typeIs_str _ _ _) (by decide) fun _ => ?_)
  refine wpAny_bind (wpAny_of_eq (a := some _) rfl ?_)
  refine wpAny_ite (PySem.W.KPc.ite_no (by decide +kernel) ?_)
  refine wpAny_ite (PySem.W.KPc.ite_no (by decide +kernel) ?_)
  refine wpAny_bind (wpAny_typeNameOfCut_int ?_)
  have hp : Float.parseFormatSpec (PySem.Str.ofString ">8,").cps.toList "int" 62 = .ok ⟨32, 62, none, false, false, some 8, some ',', none, none⟩ := by kernel_rfl
  rw [hp]
  refine wpAny_ite (PySem.W.KPc.ite_yes (by decide +kernel) ?_)
  refine wpAny_bind (wpAny_of_eq (PySem.overDigitLimit_small hd) ?_)
  refine wpAny_ite (PySem.W.KPc.ite_no (by decide +kernel) ?_)
  refine PySem.W.KXf.ret_text (T := numT a) ?_ ?_ hk
  · rw [show decide (a < 0) = false from decide_eq_false (by omega)]
    exact fld_txt rfl (grp_any (fun _ _ _ => rfl) (fun _ _ _ _ => rfl))
  · rw [show decide (a < 0) = false from decide_eq_false (by omega)]
    exact Nat.le_trans (Nat.le_of_eq (congrArg PySem.Str.length (fld_txt rfl (grp_any (fun _ _ _ => rfl) (fun _ _ _ _ => rfl))))) hl
/-! ### groups of three, from the left -/
def com : List Nat → List Nat
  | [] => []
  | x :: xs => x :: (if xs ≠ [] ∧ xs.length % 3 = 0 then 44 :: com xs else com xs)
theorem com_app {f : List Nat} (hf : f.length = 3) : ∀ {e : List Nat}, e ≠ [] → com (e ++ f) = com e ++ 44 :: f
  | [], h => absurd rfl h
  | x :: e, _ => by
    rw [List.cons_append]
    unfold com
    have hn : e ++ f ≠ [] := fun h => by rw [(List.append_eq_nil_iff.mp h).2] at hf; cases hf
    have hm : (e ++ f).length % 3 = e.length % 3 := by rw [List.length_append, hf]; omega
    cases e with
    | nil =>
      have h3 : com f = f := by
        match f, hf with
        | [a, b, c], _ => rfl
      rw [List.nil_append, if_pos ⟨(fun h => by rw [h] at hf; cases hf), (by omega)⟩, if_neg (fun h => h.1 rfl), h3]
      rfl
    | cons y e =>
      rw [hm, com_app hf (List.cons_ne_nil _ _)]
      by_cases h : (y :: e).length % 3 = 0
      · rw [if_pos ⟨hn, h⟩, if_pos ⟨List.cons_ne_nil _ _, h⟩]; rfl
      · rw [if_neg (fun z => h z.2), if_neg (fun z => h z.2)]; rfl
theorem com_short {d : List Nat} (h : d.length ≤ 3) : com d = d := by
  match d, h with
  | [], _ => rfl
  | [a], _ => rfl
  | [a, b], _ => rfl
  | [a, b, c], _ => rfl
theorem grp_com : ∀ (t : Nat) (d : List Nat) (r : Int) (o : List Nat), r ≤ 0 → d ≠ [] → d.length < t → groupsFromRight' 3 44 t d.reverse r o = com d ++ o
  | 0, d, r, o, _, _, h => absurd h (Nat.not_lt_zero _)
  | t + 1, d, r, o, hr, hd, h => by
    have hl : 0 < d.length := List.length_pos_iff.mpr hd
    unfold groupsFromRight'
    have en : (min 3 (max (max (d.reverse.length : Int) r) 1).toNat : Nat) = min 3 d.length := by rw [List.length_reverse]; omega
    dsimp only
    rw [en, List.length_reverse]
    have e0 : min 3 d.length - d.length = 0 := by omega
    rw [e0, List.replicate_zero, List.nil_append]
    by_cases h3 : d.length ≤ 3
    · have em : min 3 d.length = d.length := by omega
      rw [em]
      have ed : d.reverse.drop d.length = [] := List.drop_eq_nil_of_le (by simp)
      have et : d.reverse.take d.length = d.reverse := List.take_of_length_le (by simp)
      rw [ed, et, List.reverse_reverse, if_pos (by simp; omega), com_short h3]
    · have em : min 3 d.length = 3 := by omega
      rw [em]
      have e1 : d = d.take (d.length - 3) ++ d.drop (d.length - 3) := (List.take_append_drop _ _).symm
      have l2 : (d.drop (d.length - 3)).length = 3 := by rw [List.length_drop]; omega
      have n1 : d.take (d.length - 3) ≠ [] := fun z => by have := congrArg List.length z; rw [List.length_take] at this; simp at this; omega
      have er : d.reverse.drop 3 = (d.take (d.length - 3)).reverse := by rw [List.drop_reverse]
      have eu : d.reverse.take 3 = (d.drop (d.length - 3)).reverse := by rw [List.take_reverse]
      rw [er, eu, List.reverse_reverse, if_neg (by simp [n1]), grp_com t _ _ _ (by omega) n1 (by rw [List.length_take]; omega)]
      conv => rhs; rw [e1]
      rw [com_app l2 n1, List.append_assoc]
      rfl
theorem grp_is {d : List Nat} (h : d ≠ []) : grp d = com d := by
  unfold grp
  rw [grp_com _ _ _ _ (Int.le_refl 0) h (Nat.lt_succ_self _), List.append_nil]
theorem com_len : ∀ d : List Nat, (com d).length ≤ 2 * d.length ∧ (∀ c ∈ com d, c = 44 ∨ c ∈ d)
  | [] => ⟨Nat.le_refl _, fun c h => nomatch h⟩
  | x :: xs => by
    obtain ⟨h1, h2⟩ := com_len xs
    unfold com
    split
    · refine ⟨by simp only [List.length_cons]; omega, fun c h => ?_⟩
      simp only [List.mem_cons] at h ⊢
      rcases h with h | h | h
      · exact .inr (.inl h)
      · exact .inl h
      · rcases h2 c h with h | h
        · exact .inl h
        · exact .inr (.inr h)
    · refine ⟨by simp only [List.length_cons]; omega, fun c h => ?_⟩
      simp only [List.mem_cons] at h ⊢
      rcases h with h | h
      · exact .inr (.inl h)
      · rcases h2 c h with h | h
        · exact .inl h
        · exact .inr (.inr h)
theorem digs_ne (n : Int) : digs n ≠ [] := by
  unfold digs
  cases h : Nat.toDigits 10 n.natAbs with
  | nil => exact absurd h Nat.toDigits_ne_nil
  | cons _ _ => exact fun z => nomatch z
theorem digs_len {n : Int} (n1 : n.natAbs < 10 ^ 30) : (digs n).length ≤ 30 := numL_len (by decide) n1
theorem numT_tl (n : Int) : tl (numT n) = List.replicate (8 - (com (digs n)).length) 32 ++ com (digs n) := by
  unfold numT
  rw [tl_mk, grp_is (digs_ne n)]
theorem numT_len {n : Int} (n0 : 0 < n) (n1 : n < 1000000000000000000000000000000) : (numT n).length ≤ 60 := by
  have h := digs_len (n := n) (by omega)
  have g := (com_len (digs n)).1
  rw [len_tl, numT_tl, List.length_append, List.length_replicate]
  omega
theorem numT_pr (n : Int) : Pr (numT n) := fun c hc => by
  rw [numT_tl] at hc
  rcases List.mem_append.mp hc with h | h
  · rw [List.eq_of_mem_replicate h]; decide
  · rcases (com_len (digs n)).2 c h with h | h
    · rw [h]; decide
    · have := numL_digits _ c h
      omega
theorem fold_sp (n : Nat) (a : Array Nat) : (List.replicate n #[32]).foldl (· ++ ·) a = a ++ (List.replicate n 32).toArray := by
  induction n generalizing a with
  | zero => simp
  | succ n ih => rw [List.replicate_succ, List.foldl_cons, ih, List.replicate_succ]; apply Array.toList_inj.mp; simp
theorem tmul_sp (m : Int) : Txt.mul (Str.ofString " ") m = ⟨(List.replicate m.toNat 32).toArray⟩ := by
  unfold Txt.mul
  split
  · rename_i h
    rw [show m.toNat = 0 by omega]; rfl
  · rename_i h
    split
    · rename_i e
      rcases Bool.or_eq_true _ _ |>.mp e with e | e
      · have : m = 1 := by simpa using e
        subst this; rfl
      · exact absurd e (by decide)
    · show (⟨(List.replicate m.toNat #[32]).foldl (· ++ ·) #[]⟩ : Str) = _
      rw [fold_sp]; simp
theorem sps_len (n : Nat) : (⟨(List.replicate n 32).toArray⟩ : Str).length = n := by simp [Str.length]
/-! ### f-strings over trees -/
section
variable {X : Cx} {W : WX} {K : PySem.W.Frag}
def tSp (sp : PySem.Str) : TE := fun σ H Q => Q (.str sp) H
theorem pe_fmtS {e spec : Expr} {te : TE} {pos : Pos} (he : PE X e te) (hs : PE X spec (tSp (PySem.Str.ofString "<16"))) : PE X (.FormattedValue e (-1) (some spec) pos) (fun σ H Q => te σ H fun x H1 => ∃ z : PySem.Str, x = .str z ∧ z.length ≤ 1000 ∧ Q (.str (padR z 16)) H1) := by
  refine ⟨fun pins s σ H Q I h => wpAny_FormattedValue_spec (thn (he.run pins s σ H _ I h) fun v s1 hv => ?_)⟩
  obtain ⟨x, H1, I1, r1, z, rfl, hz, q⟩ := hv
  obtain ⟨t, rfl⟩ := r1
  refine thn (hs.run pins s1 σ H1 (fun y H2 => y = .str (PySem.Str.ofString "<16") ∧ H2 = H1) I1 ⟨rfl, rfl⟩) fun r s2 hr => ?_
  obtain ⟨y, H2, I2, r2, rfl, rfl⟩ := hr
  obtain ⟨t2, rfl⟩ := r2
  exact ⟨_, _, rfl, fld_s hz fun t' k => ⟨.str _, H2, I2.tok _, ⟨_, rfl⟩, q⟩⟩
theorem pe_fmtN {e spec : Expr} {te : TE} {pos : Pos} (he : PE X e te) (hs : PE X spec (tSp (PySem.Str.ofString ">8,"))) : PE X (.FormattedValue e (-1) (some spec) pos) (fun σ H Q => te σ H fun x H1 => ∃ i : Int, x = .int i ∧ 0 ≤ i ∧ i.natAbs.log2 < 1920 ∧ (numT i).length ≤ sizeLine ∧ Q (.str (numT i)) H1) := by
  refine ⟨fun pins s σ H Q I h => wpAny_FormattedValue_spec (thn (he.run pins s σ H _ I h) fun v s1 hv => ?_)⟩
  obtain ⟨x, H1, I1, r1, i, rfl, h0, hd, hl, q⟩ := hv
  obtain ⟨t, rfl⟩ := r1
  refine thn (hs.run pins s1 σ H1 (fun y H2 => y = .str (PySem.Str.ofString ">8,") ∧ H2 = H1) I1 ⟨rfl, rfl⟩) fun r s2 hr => ?_
  obtain ⟨y, H2, I2, r2, rfl, rfl⟩ := hr
  obtain ⟨t2, rfl⟩ := r2
  exact ⟨_, _, rfl, fld_i h0 hd hl fun t' k => ⟨.str _, H2, I2.tok _, ⟨_, rfl⟩, q⟩⟩
def gFmtS (x z : Tr) : Prop := ∃ y : PySem.Str, x = .str y ∧ y.length ≤ 1000 ∧ z = .str (padR y 16)
def gFmtN (x z : Tr) : Prop := ∃ i : Int, x = .int i ∧ 0 ≤ i ∧ i.natAbs.log2 < 1920 ∧ (numT i).length ≤ sizeLine ∧ z = .str (numT i)
def gFmt (x z : Tr) : Prop := (∃ y : PySem.Str, x = .str y ∧ y.length ≤ sizeLine ∧ z = .str y) ∨ ∃ i : Int, x = .int i ∧ i.natAbs.log2 < 1920 ∧ z = .str (toString i)
theorem pe_spec {sp : PySem.Str} {k : Nat} {p1 p2 : Pos} : PE X (.JoinedStr [.Constant (.str sp) k p1] p2) (tSp sp) := pe_joined1 pe_str
theorem e_fmtS {e : Expr} {te : UE} {k : Nat} {p1 p2 pos : Pos} (he : TPE X W e te) : TPE X W (.FormattedValue e (-1) (some (.JoinedStr [.Constant (.str (PySem.Str.ofString "<16")) k p1] p2)) pos) (uUn gFmtS te) :=
  ⟨wkE (pe_fmtS he.pe pe_spec) fun σ H R ⟨L, F, S, I, ρ, hd, sl, h⟩ => lE_then he.mono hd sl h (fun _ _ _ _ h => h) fun x S1 v H1 I1 ⟨z, ⟨y, e1, hz, e2⟩, q⟩ hd1 s1 sl1 rx => by
    cases vw_eq_str hd1 rx e1
    subst e2
    exact ⟨y, rfl, hz, q _ _ _ hd1 s1 rfl⟩, mono_un he.mono⟩
theorem e_fmtN {e : Expr} {te : UE} {k : Nat} {p1 p2 pos : Pos} (he : TPE X W e te) : TPE X W (.FormattedValue e (-1) (some (.JoinedStr [.Constant (.str (PySem.Str.ofString ">8,")) k p1] p2)) pos) (uUn gFmtN te) :=
  ⟨wkE (pe_fmtN he.pe pe_spec) fun σ H R ⟨L, F, S, I, ρ, hd, sl, h⟩ => lE_then he.mono hd sl h (fun _ _ _ _ h => h) fun x S1 v H1 I1 ⟨z, ⟨y, e1, h0, h1, h2, e2⟩, q⟩ hd1 s1 sl1 rx => by
    cases vw_eq_int hd1 rx e1
    subst e2
    exact ⟨y, rfl, h0, h1, h2, q _ _ _ hd1 s1 rfl⟩, mono_un he.mono⟩
theorem e_fmt {e : Expr} {te : UE} {pos : Pos} (he : TPE X W e te) : TPE X W (.FormattedValue e (-1) none pos) (uUn gFmt te) :=
  ⟨wkE (pe_fmt he.pe) fun σ H R ⟨L, F, S, I, ρ, hd, sl, h⟩ => lE_then he.mono hd sl h (fun _ _ _ _ h => h) fun x S1 v H1 I1 ⟨z, hg, q⟩ hd1 s1 sl1 rx => by
    rcases hg with ⟨y, e1, hz, e2⟩ | ⟨i, e1, hz, e2⟩
    · cases vw_eq_str hd1 rx e1
      subst e2
      exact .inl ⟨y, rfl, hz, q _ _ _ hd1 s1 rfl⟩
    · cases vw_eq_int hd1 rx e1
      subst e2
      exact .inr ⟨i, rfl, hz, q _ _ _ hd1 s1 rfl⟩, mono_un he.mono⟩
/-- max(xs) of a list of ints -/
def gMaxL (xs : List Tr) (z : Tr) : Prop := ∃ (ns : List Int) (m : Int), xs = [.lst (ns.map .int)] ∧ z = .int m ∧ m ∈ ns ∧ ∀ y ∈ ns, y ≤ m
theorem RepL.ints_eq {I : Hp} : ∀ {ns : List Int} {vs : List V}, RepL K I (ns.map Tr.int) vs → vs = ns.map V.int
  | [], vs, r => by cases r; rfl
  | n :: ns, _, r => by
    obtain ⟨v, ws, rfl, h1, h2⟩ := r
    cases h1
    rw [RepL.ints_eq h2]; rfl
theorem c_maxL : CallT K (rMax K) gMaxL := by
  intro L F H S I xs z vs R hd r hg k
  obtain ⟨ns, m, e, rfl, h1, h2⟩ := hg
  cases xs with
  | nil => cases e
  | cons x xs =>
    obtain ⟨e1, e2⟩ := List.cons.inj (show vw S x :: xs.map (vw S) = _ from e)
    have e3 : xs = [] := by cases xs with | nil => rfl | cons _ _ => cases e2
    subst e3
    obtain ⟨v, ws, rfl, r1, r2⟩ := r
    cases r2
    obtain ⟨a, us, rfl, s1, s2⟩ := asL_sq hd r1 (by rw [e1]; rfl)
    have := RepL.ints_eq s2
    subst this
    refine ⟨a, ns, rfl, s1, List.length_pos_of_mem h1, fun m' g1 g2 => ?_⟩
    have : m' = m := Int.le_antisymm (h2 _ g1) (g2 _ h1)
    subst this
    exact k _ H I hd (Same.refl _) rfl
/-- list + list, the new list will change -/
def uAddC (ta tb : UE) : UE := fun ρ S Q X => ta ρ S (fun x S1 => tb ρ S1 (fun y S2 => ∃ xs ys, vw S2 x = .lst xs ∧ vw S2 y = .lst ys ∧ xs.length + ys.length ≤ sizeLine ∧ ∀ p, S2 p = none → Q (.ref p) (put S2 p (.lst (xs ++ ys)))) X) X
theorem e_addC {a b : Expr} {ta tb : UE} {pos : Pos} (ha : TPE X W a ta) (hb : TPE X W b tb) : TPE X W (.BinOp a .Add b pos) (uAddC ta tb) :=
  ⟨wkE (pe_op ad_op ha.pe hb.pe) fun σ H R ⟨L, F, S, I, ρ, hd, sl, h⟩ =>
    lE_then ha.mono hd sl h (fun _ _ _ _ h => h) fun x S1 v H1 I1 q1 hd1 s1 sl1 rx => lE_then hb.mono hd1 sl1 q1 (dnX_up s1) fun y S2 w H2 I2 ⟨xs, ys, e1, e2, c, q2⟩ hd2 s2 sl2 ry => by
      obtain ⟨a1, vs, rfl, h1, h2⟩ := vw_lst hd2 (rx.mono s2) e1
      obtain ⟨b1, ws, rfl, h3, h4⟩ := vw_lst hd2 ry e2
      exact .inl (.inr (.inr ⟨a1, b1, vs, ws, rfl, rfl, h1, h3, by rw [h2.len, h4.len]; exact c, fun p np => q2 p (hd2.freeS np) _ _ _ (hd2.cell np ⟨vs ++ ws, rfl, h2.app h4⟩) (s1.trans s2) rfl⟩)),
    fun ρ S Q Q' X X' hQ hX h => ha.mono _ _ _ _ _ _ (fun x S1 h1 => hb.mono _ _ _ _ _ _ (fun y S2 ⟨xs, ys, e1, e2, c, q⟩ => ⟨xs, ys, e1, e2, c, fun p hp => hQ _ _ (q p hp)⟩) hX h1) hX h⟩
/-- the parts -/
inductive TPJ (X : Cx) (W : WX) : List Expr → List UE → Prop where
  | nil : TPJ X W [] []
  | cons {e : Expr} {t : UE} {es : List Expr} {ts : List UE} (h : TPE X W e t) (r : TPJ X W es ts) : TPJ X W (e :: es) (t :: ts)
def uJs : List UE → PySem.Str → Rho → Sto → (PySem.Str → Sto → Prop) → QX → Prop
  | [], acc, _, S, Q, _ => Q acc S
  | t :: ts, acc, ρ, S, Q, X => t ρ S (fun x S1 => ∃ y : PySem.Str, x = .str y ∧ (acc ++ y).length ≤ sizeLine ∧ uJs ts (acc ++ y) ρ S1 Q X) X
def uFs (ts : List UE) : UE := fun ρ S Q X => uJs ts Str.empty ρ S (fun z S1 => Q (.str z) S1) X
theorem TPJ.pj {es : List Expr} {ts : List UE} (h : TPJ X W es ts) : PJ X es (ts.map (lE X.K W)) := by
  induction h with
  | nil => exact .nil
  | cons h r ih => exact .cons h.pe ih
theorem TPJ.mono {es : List Expr} {ts : List UE} (h : TPJ X W es ts) : ∀ t ∈ ts, MonoE t := by
  induction h with
  | nil => exact fun _ h => nomatch h
  | cons h r ih =>
    intro t ht
    rcases List.mem_cons.mp ht with rfl | ht
    · exact h.mono
    · exact ih t ht
theorem mono_js : ∀ {ts : List UE} (m : ∀ t ∈ ts, MonoE t) (acc : PySem.Str) (ρ : Rho) (S : Sto) (Q Q' : PySem.Str → Sto → Prop) (X X' : QX), (∀ y S, Q y S → Q' y S) → XLe X X' → uJs ts acc ρ S Q X → uJs ts acc ρ S Q' X'
  | [], _, acc, ρ, S, Q, Q', X, X', hQ, hX, h => hQ _ _ h
  | t :: ts, m, acc, ρ, S, Q, Q', X, X', hQ, hX, h => m t (List.mem_cons_self ..) _ _ _ _ _ _ (fun x S1 ⟨y, e1, e2, q⟩ => ⟨y, e1, e2, mono_js (fun t h => m t (List.mem_cons_of_mem _ h)) _ _ _ _ _ _ _ hQ hX q⟩) hX h
theorem lJs {σ : L2.St} {R : VK} {L : Lk} {F : Hp} : ∀ {ts : List UE} (m : ∀ t ∈ ts, MonoE t) {H I : Hp} {S : Sto} {ρ : Rho} (acc : PySem.Str) {Q : PySem.Str → Sto → Prop} {X0 : QX}, Hd X.K L F H S I → Slots X.K I σ ρ → uJs ts acc ρ S Q X0 → XLe X0 (dnX X.K L F I W σ) →
    (∀ z S' H' I', Q z S' → Hd X.K L F H' S' I' → Same I I' → R (.str z) H') → tJs (ts.map (lE X.K W)) acc σ H (fun out H1 => R (.str out) H1)
  | [], _, H, I, S, ρ, acc, Q, X0, hd, sl, h, hx, k => k _ _ _ _ h hd (Same.refl _)
  | t :: ts, m, H, I, S, ρ, acc, Q, X0, hd, sl, h, hx, k =>
    lE_then (m t (List.mem_cons_self ..)) hd sl h hx fun x S1 v H1 I1 ⟨y, e1, e2, q⟩ hd1 s1 sl1 rx => by
      subst e1
      cases rx
      exact ⟨y, rfl, e2, lJs (fun t h => m t (List.mem_cons_of_mem _ h)) _ hd1 sl1 q (fun c fs xs S h => dnX_up s1 c fs xs S (hx c fs xs S h)) fun z S' H' I' qz hd' s' => k z S' H' I' qz hd' (s1.trans s')⟩
theorem e_joined {v1 v2 : Expr} {rest : List Expr} {ts : List UE} {pos : Pos} (h : TPJ X W (v1 :: v2 :: rest) ts) : TPE X W (.JoinedStr (v1 :: v2 :: rest) pos) (uFs ts) :=
  ⟨wkE (pe_joined h.pj) fun σ H R ⟨L, F, S, I, ρ, hd, sl, q⟩ => lJs h.mono _ hd sl q (fun _ _ _ _ h => h) fun z S' H' I' qz hd' s' => qz _ _ _ hd' s' rfl,
    fun ρ S Q Q' X X' hQ hX q => mono_js h.mono _ _ _ _ _ _ _ (fun y S => hQ _ S) hX q⟩
end
end KQ
namespace KQ
open PySem PySem.Spec PyProof.Rows L2 TL KB
/-! ### x op y of two unlike classes -/
section
open PySem.W
variable {prog : Program} {w : World} {A : Around} {E : Value → Shared → Prop} {s : Shared} {K : Frag} {x C D L f g : Addr} {h₀ : Heap} {m : Str → Option Value} {ox : Obj} {od : Option Obj}
theorem bin_unlike {op : Operator} {b : Value} {Q : Value → Shared → Prop} (F : Fr h₀ L s.heap m) (X₀ : K.In h₀) (I : InstAt s.heap x ox C od) (hb : Looks (model prog w) s.heap (typeOf b) (.ref D)) (hne : C ≠ D) (hc : selfFirst K C = true) (hd : selfFirst K D = true)
    (hs : findIn K (.ref C) (PySem.dunder op.info.2) = some (some (.ref f))) (hf : isFn K (.ref f) = true) (hr : findIn K (.ref C) (dunderR op.info.2) = some none)
    (hs2 : findIn K (.ref D) (PySem.dunder op.info.2) = some (some (.ref g))) (hr2 : findIn K (.ref D) (dunderR op.info.2) = some none) (hsub : subIn K (.ref D) (.ref C) = some false)
    (h : wpAny (model prog w) A (call (.ref f) [.ref x, b]) (PySem.W.CmpBack Q) E s) : wpAny (model prog w) A (binaryOp op (.ref x) b) Q E s := by
  have X := X₀.keeps F.keep
  obtain ⟨cd, rest, hcd, hm⟩ := ksp_first hc
  obtain ⟨cd2, rest2, hcd2, hm2⟩ := ksp_first hd
  rcases hi : op.info with ⟨sym, nm'⟩
  rw [hi] at hs hr hs2 hr2
  dsimp only at hs hr hs2 hr2
  have one := ksp_try X I hs hf h
  obtain ⟨hh, gg, d, tt, os⟩ := s
  have L1 : Looks (model prog w) hh (typeOf (.ref x)) (.ref C) := I.type
  have L2 : Looks (model prog w) hh (typeOf b) (.ref D) := hb
  have L3 : Looks (model prog w) hh (fillsNumberSlot (.ref C) nm') true := fills_K X hcd hm hs
  have L4 : Looks (model prog w) hh (fillsNumberSlot (.ref D) nm') true := fills_K X hcd2 hm2 hs2
  have L5 : Looks (model prog w) hh (isSubtype (.ref D) (.ref C)) false := looks_subIn X hsub
  have L6 : Looks (model prog w) hh (numberSlotInPython (.ref C) nm') true := ksp_inPy X hs hr (.inl rfl)
  have L7 : Looks (model prog w) hh (numberSlotInPython (.ref D) nm') true := ksp_inPy X hs2 hr2 (.inl rfl)
  have hne' : (Value.ref C == Value.ref D) = false := Bool.eq_false_iff.mpr fun q => by cases beq_iff_eq.mp q; exact hne rfl
  simp only [binaryOp, hi]
  refine wpAny_holding (wpAny_bind ?_)
  unfold binaryOp1
  refine wpAny_bind (L1.at (wpAny_bind (L2.at (wpAny_bind (L3.at ?_)))))
  simp only [hne', Bool.false_eq_true, if_false]
  ksp_lk
  refine wpAny_mono one (fun r s' hr' => ?_) fun _ _ e => e
  obtain ⟨v, rfl, hq⟩ := hr'
  ksp_lk
  exact hq
end
/-- what a class must have for op, beside the method -/
structure OwnBin (K : PySem.W.Frag) (op : Operator) (C D : Addr) : Prop where
  sf : PySem.W.selfFirst K C = true
  sd : PySem.W.selfFirst K D = true
  ne : C ≠ D → PySem.W.findIn K (.ref C) (dunderR op.info.2) = some none ∧ (∃ g, PySem.W.findIn K (.ref D) (PySem.dunder op.info.2) = some (some (.ref g))) ∧ PySem.W.findIn K (.ref D) (dunderR op.info.2) = some none ∧ PySem.W.subIn K (.ref D) (.ref C) = some false
/-- x op y, each of a class of its own -/
def uOBin2 (K : PySem.W.Frag) (op : Operator) (ms : Addr → TSp → Prop) (ta tb : UE) : UE := fun ρ S Q X => ta ρ S (fun x S1 => tb ρ S1 (fun y S2 => ∃ C D fs xs gs zs t, vw S2 x = .ins C fs xs ∧ vw S2 y = .ins D gs zs ∧ OwnBin K op C D ∧ ms C t ∧ t [x, y] S2 Q X) X) X
section
variable {X : Cx} {W : WX} {K : PySem.W.Frag} {k : Nat} {ms : Addr → TSp → Prop} {a b : Expr} {ta tb : UE} {pos : Pos}
theorem e_obin2 {op : Operator} (hk : X.K = K) (hM : ∀ C t, ms C t → MthT X.prog X.w X.K X.mg X.base k C (PySem.dunder op.info.2) t) (hr : Room k X.A) (tk : Takes X W) (ha : TPE X W a ta) (hb : TPE X W b tb) : TPE X W (.BinOp a op b pos) (uOBin2 K op ms ta tb) := by
  subst hk
  refine ⟨⟨fun pins s σ H Q I h => ?_⟩, fun ρ S Q Q' X X' hQ hX h => ha.mono _ _ _ _ _ _ (fun x S1 q => hb.mono _ _ _ _ _ _ (fun y S2 ⟨C, D, fs, xs, gs, zs, t, e1, e2, o, c, q⟩ => ⟨C, D, fs, xs, gs, zs, t, e1, e2, o, c, (hM C t c).mono _ _ _ _ _ _ hQ hX q⟩) hX q) hX h⟩
  obtain ⟨L, F, S, I0, ρ, hd, sl, h⟩ := h
  have step : lE X.K W ta σ H (fun x H1 => lE X.K W tb σ H1 (fun y H2 => ∃ p q C D dx dy fs gs t, x = .ref p ∧ y = .ref q ∧ H2 p = some (.ins C dx fs) ∧ H2 q = some (.ins D dy gs) ∧ OwnBin X.K op C D ∧ ms C t ∧ lSp X.K t [.ref p, .ref q] H2 Q (WE W σ))) :=
    lE_then ha.mono hd sl h (fun _ _ _ _ h => h) fun x S1 v H1 I1 q hd1 s1 sl1 r =>
      lE_then hb.mono hd1 sl1 q (dnX_up s1) fun y S2 u H2 I2 ⟨C, D, fs, xs, gs, zs, t, e1, e2, o, c, q⟩ hd2 s2 sl2 ry => by
        obtain ⟨p, dx, vs, rfl, h1, hl, h2⟩ := vw_ins hd2 (r.mono s2) e1
        obtain ⟨p2, dy, us, rfl, h3, hl2, h4⟩ := vw_ins hd2 ry e2
        exact ⟨p, p2, C, D, dx, dy, _, _, t, rfl, rfl, h1, h3, o, c, L, F, S2, I2, [x, y], hd2, .cons (r.mono s2) (.cons ry rfl), (hM C t c).mono _ _ _ _ _ _ (dnV_up (s1.trans s2)) (dnX_up (s1.trans s2)) q⟩
  refine wpAny_BinOp (binT ha.pe hb.pe I step fun v u s2 x y H2 I2 rx ry ⟨p, q, C, D, dx, dy, fs, gs, t, ex, ey, h1, h3, o, c, w⟩ => ?_)
  subst ex ey
  cases rx
  cases ry
  obtain ⟨⟨f, fd, ps, M, bd, Fn⟩, cl, _⟩ := hM C t c
  obtain ⟨mA, J, _⟩ := ins_get I2.hok h1
  obtain ⟨mB, J', _⟩ := ins_get I2.hok h3
  obtain ⟨od, J, _⟩ := J.look
  obtain ⟨od', J', _⟩ := J'.look
  obtain ⟨m, hF⟩ := I2.fr
  have run := wpAny_mono (run_fnS (us := [.ref p, .ref q]) (vs := [.ref p, .ref q]) (E := WE W) Fn hr bd (passAt tk σ) I2 (.cons rfl (.cons rfl .nil)) w) (fun w s' (z : EP X pins σ Q w s') => (by
    obtain ⟨z', H', I', rz, qz⟩ := z
    exact SlX.cmpback rz ⟨z', H', I', rz, qz⟩ : PySem.W.CmpBack (EP X pins σ Q) w s')) fun _ _ x => x
  by_cases hcd : C = D
  · subst hcd
    exact PySem.W.binop_K hF I2.ok.mod.kin J J'.type o.sf M.at_ M.fn run
  · obtain ⟨r1, ⟨g, r2⟩, r3, r4⟩ := o.ne hcd
    exact bin_unlike hF I2.ok.mod.kin J J'.type hcd o.sf o.sd M.at_ M.fn r1 r2 r3 r4 run
end
/-! ### ~x -/
def uOInv (ms : Addr → TSp → Prop) (ta : UE) : UE := fun ρ S Q X => ta ρ S (fun x S1 => ∃ C fs xs t, vw S1 x = .ins C fs xs ∧ ms C t ∧ t [x] S1 Q X) X
section
variable {X : Cx} {W : WX} {k : Nat} {ms : Addr → TSp → Prop} {a e : Expr} {es : List Expr} {ta tf : UE} {tr : UA} {p pos : Pos} {x : Str}
theorem e_oinv (hM : ∀ C t, ms C t → MthT X.prog X.w X.K X.mg X.base k C "__invert__" t) (hr : Room k X.A) (tk : Takes X W) (ha : TPE X W a ta) : TPE X W (.UnaryOp .Invert a pos) (uOInv ms ta) := by
  refine ⟨⟨fun pins s σ H Q I h => ?_⟩, fun ρ S Q Q' X X' hQ hX h => ha.mono _ _ _ _ _ _ (fun x S1 ⟨C, fs, xs, t, e1, c, q⟩ => ⟨C, fs, xs, t, e1, c, (hM C t c).mono _ _ _ _ _ _ hQ hX q⟩) hX h⟩
  obtain ⟨L, F, S, I0, ρ, hd, sl, h⟩ := h
  have step : lE X.K W ta σ H (fun x H1 => ∃ p C dx fs t, x = .ref p ∧ H1 p = some (.ins C dx fs) ∧ ms C t ∧ lSp X.K t [.ref p] H1 Q (WE W σ)) :=
    lE_then ha.mono hd sl h (fun _ _ _ _ h => h) fun x S1 v H1 I1 ⟨C, fs, xs, t, e1, c, q⟩ hd1 s1 sl1 r => by
      obtain ⟨p, dx, vs, rfl, h1, hl, h2⟩ := vw_ins hd1 r e1
      exact ⟨p, C, dx, _, t, rfl, h1, c, L, F, S1, I1, [x], hd1, .cons r rfl, (hM C t c).mono _ _ _ _ _ _ (dnV_up s1) (dnX_up s1) q⟩
  refine UnaryOp_ (thn (ha.pe.run pins s σ H _ I step) fun u s1 ⟨y, H1, I1, ry, p, C, dx, fs, t, ey, h1, c, w⟩ => ?_)
  subst ey
  cases ry
  obtain ⟨⟨f, fd, ps, M, bd, Fn⟩, cl, _⟩ := hM C t c
  obtain ⟨mA, J, _⟩ := ins_get I1.hok h1
  obtain ⟨od, J, _⟩ := J.look
  obtain ⟨m, hF⟩ := I1.fr
  exact PySem.W.ksp_inv hF I1.ok.mod.kin J M.at_ M.fn (run_fnS (us := [.ref p]) (vs := [.ref p]) (E := WE W) Fn hr bd (passAt tk σ) I1 (.cons rfl .nil) w)
/-! ### an object called -/
def uCallO (ms : Addr → TSp → Prop) (tf : UE) (ta : UA) : UE := fun ρ S Q X => tf ρ S (fun x S1 => (∃ C fs xs, vw S1 x = .ins C fs xs) ∧ ta ρ S1 (fun ys S2 => ∃ C gs zs t, vw S2 x = .ins C gs zs ∧ ms C t ∧ t (x :: ys) S2 Q X) X) X
theorem callWith_obj {M : Model} {A : Around} {E : Value → Shared → Prop} {s : Shared} {env : Env} {y : Addr} {first : List Value} {Q : Value → Shared → Prop} {args : List (Bool × Sem Value)} (hplain : (args.any (·.1) || ([] : List (Option Str × Sem Value)).any (·.1.isNone)) = false)
    (h : wpAny M A (evalArgs (.ref y) true args []) (fun a s₁ => (∃ C ox od, PySem.W.InstAt s₁.heap y ox C od ∧ ox.data = .plain) ∧ wpAny M A (call (.ref y) (first ++ a.pos) a.kw) Q E s₁) E s) : wpAny M A (callWith pos (.ref y) first args []) Q E s := by
  unfold callWith
  refine wpAny_bind (wpAny_holding (wpAny_mono h (fun a s₁ h₁ => wpAny_bind (wpAny_standAt ?_)) fun _ _ y => y))
  obtain ⟨⟨C, ox, od, hI, hd⟩, h₁⟩ := h₁
  have L := PySem.W.kco_keeper (M := M) hI hd
  simp only [hplain]
  refine wpAny_bind (L.here ?_)
  have tail : ∀ {t : Sem Value}, wpAny M A t Q E s₁ → wpAny M A (t >>= fun r => holding [r] point >>= fun _ => pure r) Q E s₁ :=
    fun ht => wpAny_bind (wpAny_mono ht (fun r s₂ hr => wpAny_bind (wpAny_holding (wpAny_point (wpAny_pure hr)))) fun _ _ y => y)
  exact tail (PySem.wpAny_operateT h₁)
theorem e_callO (hM : ∀ C t, ms C t → MthT X.prog X.w X.K X.mg X.base k C "__call__" t) (hfn : ∀ C t, ms C t → ∀ f, PySem.W.findIn X.K (.ref C) "__call__" = some (some (.ref f)) → PySem.W.fnIn X.K f = true) (hr : Room k X.A) (tk : Takes X W) (hf : TPE X W (.Name x p) tf) (ha : TPA X W (e :: es) tr)
    (he : starEach (e :: es) X.env = (false, eval e X.env) :: starEach es X.env := by rfl) (hpl : (backTo pos (starEach es X.env)).any (·.1) = false := by rfl) : TPE X W (.Call (.Name x p) (e :: es) [] pos) (uCallO ms tf tr) := by
  refine ⟨⟨fun pins s σ H Q I h => ?_⟩, fun ρ S Q Q' X X' hQ hX h => hf.mono _ _ _ _ _ _ (fun x S1 ⟨h0, q⟩ => ⟨h0, ha.mono _ _ _ _ _ _ (fun ys S2 ⟨C, fs, xs, t, e1, c, q⟩ => ⟨C, fs, xs, t, e1, c, (hM C t c).mono _ _ _ _ _ _ hQ hX q⟩) hX q⟩) hX h⟩
  obtain ⟨L, F, S, I0, ρ, hd, sl, h⟩ := h
  have step : lE X.K W tf σ H (fun x H1 => ∃ a, x = .ref a ∧ lA X.K W tr σ H1 (fun vs H2 => ∃ C dx fs t, H2 a = some (.ins C dx fs) ∧ ms C t ∧ lSp X.K t (.ref a :: vs) H2 Q (WE W σ))) :=
    lE_then hf.mono hd sl h (fun _ _ _ _ h => h) fun x S1 v H1 I1 ⟨⟨C0, fs0, xs0, e0⟩, q⟩ hd1 s1 sl1 r => by
      obtain ⟨a, dx, vs, rfl, h1, hl, h2⟩ := vw_ins hd1 r e0
      refine ⟨a, rfl, lA_then ha.mono hd1 sl1 q (dnX_up s1) fun ys S2 us H2 I2 ⟨C, fs, xs, t, e1, c, q2⟩ hd2 s2 sl2 ry => ?_⟩
      obtain ⟨a', dx', vs', ea, h1', hl', h2'⟩ := vw_ins hd2 (r.mono s2) e1
      cases ea
      exact ⟨C, dx', _, t, h1', c, L, F, S2, I2, x :: ys, hd2, .cons (r.mono s2) ry, (hM C t c).mono _ _ _ _ _ _ (dnV_up (s1.trans s2)) (dnX_up (s1.trans s2)) q2⟩
  refine wpAny_Call_Name_kw (thn (hf.pe.run pins s σ H _ I step) fun u s1 ⟨y, H1, I1, ry, a, ey, q⟩ => ?_)
  subst ey
  cases ry
  rw [he]
  refine callWith_obj (env := X.env) (by show ((false || (backTo pos (starEach es X.env)).any (·.1)) || false) = false; rw [hpl]; rfl) (Calls.evalArgs_plain ?_)
  have ra := ha.pe.run pos pins s1 σ H1 _ I1 q
  rw [he] at ra
  refine thn ra fun us s2 ⟨vs, H2, I2, r, C, dx, fs, t, h1, c, w⟩ => ?_
  obtain ⟨⟨f, fd, ps, M, bd, Fn⟩, cl, _⟩ := hM C t c
  obtain ⟨mA, J, _⟩ := ins_get I2.hok h1
  obtain ⟨od, J, _⟩ := J.look
  refine ⟨⟨C, _, _, J, rfl⟩, ?_⟩
  have hlen : (Value.ref a :: us).length = ps.length := by
    have := Fn.len _ _ _ _ w
    rw [List.length_cons] at this ⊢
    rw [← r.length]; exact this
  have b := bd s2 (.ref a :: us) I2.kIn (by rw [List.append_nil]; exact hlen)
  rw [List.append_nil] at b
  refine wpAny_call (PySem.W.kco_code (a := ⟨us, []⟩) I2.kIn J rfl M.at_ M.fn (hfn C t c f M.at_) (codeAny_mono (Fn.run X.A X.stack s2 H2 ⟨.ref a :: us, []⟩ (.ref a :: us) (.ref a :: vs) Q (WE W σ) hr I2.env0 b (.cons rfl r) w) fun r s' hq => ?_))
  cases r with
  | error e => exact passAt tk σ pins H2 s2 e s' I2 hq
  | ok fl =>
    cases fl with
    | ret u => exact I2.after hq
    | next => exact False.elim hq
    | brk => exact False.elim hq
    | cont => exact False.elim hq
end
/-! ### index and count of flat items, reverse, clear -/
def rCntV (K : PySem.W.Frag) : V → List V → Hp → VK → Prop := fun x xs H Q => ∃ (p : Addr) (ys : List V) (y : V), x = .ref p ∧ xs = [y] ∧ SqL K H p ys ∧ flatV y = true ∧ ys.all flatV = true ∧ Q (.int (ys.countP (fun z => eqV z y) : Nat)) H
theorem count_eqU {x : V} : ∀ {xs : List V} {us : List Value}, Vals xs us → xs.all flatV = true → us.countP (eqU x) = xs.countP fun y => eqV y x
  | _, _, .nil, _ => rfl
  | y :: xs, u :: us, .cons r t, f => by
    rw [List.all_cons, Bool.and_eq_true] at f
    rw [List.countP_cons, List.countP_cons, eqU_of r f.1, count_eqU t f.2]
theorem mt_lcountV {X : Cx} : MtR X "list.count" (rCntV X.K) := by
  intro pins s σ H x xs v us Q I rx rxs h
  obtain ⟨p, ys, y, rfl, rfl, hs, fy, fs, q⟩ := h
  cases rx
  obtain ⟨u, rfl, ru⟩ := rxs.one
  obtain ⟨its, rv, ⟨⟨cls, dd, data, sl⟩, n, ho, hc, hdn, hd⟩, hlen⟩ := I.list hs
  simp only at hc hd
  subst hc hd
  refine call_meets PySem.F.slot_list_count ⟨_, ho, rfl⟩ PySem.F.entry_list_count (PySem.F.args_list_count_2 _ _)
    (SeqAt.list_countAt p its.toArray n dd sl u (eqU y)) ⟨ho, fun w hw => mem_eqAt ru fy rv fs w (by simpa using hw), ?_⟩
  have ec : its.toArray.toList.countP (eqU y) = ys.countP fun z => eqV z y := count_eqU rv fs
  refine ⟨.int (ys.countP (fun z => eqV z y) : Nat), H, I.tok _, ⟨s.toks, ?_⟩, q⟩
  show Value.int ((its.toArray.toList.countP (eqU y) : Nat) : Int) s.toks = _
  rw [ec]
def gIndex (x : Tr) (ys : List Tr) (z : Tr) : Prop := ∃ xs y v vs j w, x = .lst xs ∧ ys = [y] ∧ flatT y = some v ∧ flatTs xs = some vs ∧ vs[j]? = some w ∧ eqV w v = true ∧ (∀ (m : Nat) (w' : V), m < j → vs[m]? = some w' → eqV w' v = false) ∧ z = .int (j : Nat)
def gCount (x : Tr) (ys : List Tr) (z : Tr) : Prop := ∃ xs y v vs, x = .lst xs ∧ ys = [y] ∧ flatT y = some v ∧ flatTs xs = some vs ∧ z = .int (vs.countP (fun z => eqV z v) : Nat)
section
variable {K : PySem.W.Frag}
theorem m_index : MtT K (rIndex K) gIndex := by
  intro L F H S I x ys z v vs R hd rx ry hg k
  obtain ⟨xs, y, u, us, j, w, e1, e0, f1, f2, h1, h2, h3, rfl⟩ := hg
  obtain ⟨y0, rfl, e2⟩ := map1 e0
  obtain ⟨b, rfl, r1⟩ := RepL.one ry
  obtain ⟨a, ws, rfl, s1, s2⟩ := asL_sq hd rx (by rw [e1]; rfl)
  obtain ⟨rfl, fu⟩ := flatT_rep hd r1 (by rw [e2]; exact f1)
  obtain ⟨rfl, fus⟩ := flatTs_rep s2 f2
  exact ⟨a, _, _, j, w, rfl, rfl, s1, fu, fus, h1, h2, h3, k _ H I hd (Same.refl _) rfl⟩
theorem m_lcount : MtT K (rCntV K) gCount := by
  intro L F H S I x ys z v vs R hd rx ry hg k
  obtain ⟨xs, y, u, us, e1, e0, f1, f2, rfl⟩ := hg
  obtain ⟨y0, rfl, e2⟩ := map1 e0
  obtain ⟨b, rfl, r1⟩ := RepL.one ry
  obtain ⟨a, ws, rfl, s1, s2⟩ := asL_sq hd rx (by rw [e1]; rfl)
  obtain ⟨rfl, fu⟩ := flatT_rep hd r1 (by rw [e2]; exact f1)
  obtain ⟨rfl, fus⟩ := flatTs_rep s2 f2
  exact ⟨a, _, _, rfl, rfl, s1, fu, fus, k _ H I hd (Same.refl _) rfl⟩
theorem RepL.reverse {I : Hp} : ∀ {xs : List Tr} {vs : List V}, RepL K I xs vs → RepL K I xs.reverse vs.reverse
  | [], _, h => by cases h; exact rfl
  | x :: xs, _, h => by
    obtain ⟨v, ws, rfl, h1, h2⟩ := h
    rw [List.reverse_cons, List.reverse_cons]
    exact h2.reverse.app (.cons h1 rfl)
def gReverse (S : Sto) (xs ys xs' : List Tr) (z : Tr) : Prop := ys = [] ∧ xs' = xs.reverse ∧ z = .non
def gClear (S : Sto) (xs ys xs' : List Tr) (z : Tr) : Prop := ys = [] ∧ xs' = [] ∧ z = .non
theorem m_reverse : MmT K rReverse gReverse := by
  intro L F H S I a xs ys xs' z vs R hd ea ry hg k
  obtain ⟨rfl, rfl, rfl⟩ := hg
  cases ry
  obtain ⟨_, _, o, ho, us, rfl, rl⟩ := hd.cel a _ ea
  exact ⟨a, us, rfl, rfl, ho, k _ _ (hd.mut ea ⟨_, rfl, rl.reverse⟩) rfl⟩
theorem m_clear : MmT K rClear gClear := by
  intro L F H S I a xs ys xs' z vs R hd ea ry hg k
  obtain ⟨rfl, rfl, rfl⟩ := hg
  cases ry
  obtain ⟨_, _, o, ho, us, rfl, rl⟩ := hd.cel a _ ea
  exact ⟨a, us, rfl, rfl, ho, k _ _ (hd.mut ea ⟨_, rfl, rfl⟩) rfl⟩
end
/-! ### an __init__ that only keeps its parameters -/
def plN (C : Addr) (fs : List Str) : TSp := fun xs S Q X => xs.length = fs.length ∧ Q (.ins C fs xs) S
theorem q_plN {C : Addr} {fs : List Str} {xs : List Tr} {S : Sto} {Q : QV} {X : QX} : plN C fs xs S Q X = (xs.length = fs.length ∧ Q (.ins C fs xs) S) := propext Iff.rfl
def plI1 (C : Addr) (fs : List Str) : TSp := fun xs S Q X => ∃ (a : Addr) (x0 : Tr), xs = [.ref a, x0] ∧ S a = some (.ins C [] []) ∧ Q .non (put S a (.ins C fs [x0]))
def plI2 (C : Addr) (fs : List Str) : TSp := fun xs S Q X => ∃ (a : Addr) (x0 x1 : Tr), xs = [.ref a, x0, x1] ∧ S a = some (.ins C [] []) ∧ Q .non (put S a (.ins C fs [x0, x1]))
def plI3 (C : Addr) (fs : List Str) : TSp := fun xs S Q X => ∃ (a : Addr) (x0 x1 x2 : Tr), xs = [.ref a, x0, x1, x2] ∧ S a = some (.ins C [] []) ∧ Q .non (put S a (.ins C fs [x0, x1, x2]))
def plI4 (C : Addr) (fs : List Str) : TSp := fun xs S Q X => ∃ (a : Addr) (x0 x1 x2 x3 : Tr), xs = [.ref a, x0, x1, x2, x3] ∧ S a = some (.ins C [] []) ∧ Q .non (put S a (.ins C fs [x0, x1, x2, x3]))
end KQ
namespace KQ
open PySem PySem.Spec PyProof.Rows L2 TL KB
theorem q_uVar {i : Nat} {ρ : Rho} {S : Sto} {Q : QV} {z3 : QX} : uVar i ρ S Q z3 = (∃ x : Tr, ρ[i]? = some (some x) ∧ Q x S) := propext Iff.rfl
theorem q_uC {x : Tr} {z0 : Rho} {S : Sto} {Q : QV} {z3 : QX} : uC x z0 S Q z3 = (Q x S) := propext Iff.rfl
theorem q_u2 {ta tb : UE} {k : Tr → Tr → Sto → QV → QX → Prop} {ρ : Rho} {S : Sto} {Q : QV} {X : QX} : u2 ta tb k ρ S Q X = (ta ρ S (fun x S1 => tb ρ S1 (fun y S2 => k x y S2 Q X) X) X) := propext Iff.rfl
theorem q_uOp {g : Tr → Tr → Tr → Prop} {ta tb : UE} {ρ : Rho} {S : Sto} {Q : QV} {X : QX} : uOp g ta tb ρ S Q X = (ta ρ S (fun x S1 => tb ρ S1 (fun y S2 => ∃ z, g (vw S2 x) (vw S2 y) z ∧ Q z S2) X) X) := propext Iff.rfl
theorem q_uUn {g : Tr → Tr → Prop} {ta : UE} {ρ : Rho} {S : Sto} {Q : QV} {X : QX} : uUn g ta ρ S Q X = (ta ρ S (fun x S1 => ∃ z, g (vw S1 x) z ∧ Q z S1) X) := propext Iff.rfl
theorem q_uB {te : UE} {ρ : Rho} {S : Sto} {Q : QB} {X : QX} : uB te ρ S Q X = (te ρ S (fun x S1 => ∃ k, x = .bl k ∧ Q k S1) X) := propext Iff.rfl
theorem q_uAnd {t u : UT} {ρ : Rho} {S : Sto} {Q : QB} {X : QX} : uAnd t u ρ S Q X = (t ρ S (fun c S1 => if c = true then u ρ S1 Q X else Q false S1) X) := propext Iff.rfl
theorem q_uOr {t u : UT} {ρ : Rho} {S : Sto} {Q : QB} {X : QX} : uOr t u ρ S Q X = (t ρ S (fun c S1 => if c = true then Q true S1 else u ρ S1 Q X) X) := propext Iff.rfl
theorem q_uNot {t : UT} {ρ : Rho} {S : Sto} {Q : QB} {X : QX} : uNot t ρ S Q X = (t ρ S (fun c S1 => Q (!c) S1) X) := propext Iff.rfl
theorem q_uAndV {ta tb : UE} {ρ : Rho} {S : Sto} {Q : QV} {X : QX} : uAndV ta tb ρ S Q X = (ta ρ S (fun x S1 => ∃ c, x = .bl c ∧ if c = true then tb ρ S1 Q X else Q (.bl false) S1) X) := propext Iff.rfl
theorem q_uOrV {ta tb : UE} {ρ : Rho} {S : Sto} {Q : QV} {X : QX} : uOrV ta tb ρ S Q X = (ta ρ S (fun x S1 => ∃ c, x = .bl c ∧ if c = true then Q (.bl true) S1 else tb ρ S1 Q X) X) := propext Iff.rfl
theorem q_uNotV {ta : UE} {ρ : Rho} {S : Sto} {Q : QV} {X : QX} : uNotV ta ρ S Q X = (ta ρ S (fun x S1 => ∃ c, x = .bl c ∧ Q (.bl (!c)) S1) X) := propext Iff.rfl
theorem q_uIf {t : UT} {ta tb : UE} {ρ : Rho} {S : Sto} {Q : QV} {X : QX} : uIf t ta tb ρ S Q X = (t ρ S (fun c S1 => if c = true then ta ρ S1 Q X else tb ρ S1 Q X) X) := propext Iff.rfl
theorem q_uNil  {z0 : Rho} {S : Sto} {Q : QL} {z3 : QX} : uNil  z0 S Q z3 = (Q [] S) := propext Iff.rfl
theorem q_uCons {ta : UE} {tr : UA} {ρ : Rho} {S : Sto} {Q : QL} {X : QX} : uCons ta tr ρ S Q X = (ta ρ S (fun x S1 => tr ρ S1 (fun xs S2 => Q (x :: xs) S2) X) X) := propext Iff.rfl
theorem q_uTup {t : UA} {ρ : Rho} {S : Sto} {Q : QV} {X : QX} : uTup t ρ S Q X = (t ρ S (fun xs S1 => xs.length ≤ sizeLine ∧ Q (.tup xs) S1) X) := propext Iff.rfl
theorem q_uLst {t : UA} {ρ : Rho} {S : Sto} {Q : QV} {X : QX} : uLst t ρ S Q X = (t ρ S (fun xs S1 => xs.length ≤ sizeLine ∧ Q (.lst xs) S1) X) := propext Iff.rfl
theorem q_uLstC {t : UA} {ρ : Rho} {S : Sto} {Q : QV} {X : QX} : uLstC t ρ S Q X = (t ρ S (fun xs S1 => xs.length ≤ sizeLine ∧ ∀ p, S1 p = none → Q (.ref p) (put S1 p (.lst xs))) X) := propext Iff.rfl
theorem q_uCb {g : List Tr → Tr → Prop} {t : UA} {ρ : Rho} {S : Sto} {Q : QV} {X : QX} : uCb g t ρ S Q X = (t ρ S (fun xs S1 => ∃ z, g (xs.map (vw S1)) z ∧ Q z S1) X) := propext Iff.rfl
theorem q_uNext  {D : UEnds} {z1 : XS} {ρ : Rho} {S : Sto} : uNext  D z1 ρ S = (D.nx ρ S) := propext Iff.rfl
theorem q_uSeq {t u : US} {D : UEnds} {X : XS} {ρ : Rho} {S : Sto} : uSeq t u D X ρ S = (t { D with nx := u D X } X ρ S) := propext Iff.rfl
theorem q_uBreak  {D : UEnds} {z1 : XS} {ρ : Rho} {S : Sto} : uBreak  D z1 ρ S = (D.bk ρ S) := propext Iff.rfl
theorem q_uCont  {D : UEnds} {z1 : XS} {ρ : Rho} {S : Sto} : uCont  D z1 ρ S = (D.ct ρ S) := propext Iff.rfl
theorem q_uCut {t u : US} {D : UEnds} {X : XS} {ρ : Rho} {S : Sto} : uCut t u D X ρ S = (∀ p : QS, CutT (u D X) p → t { D with nx := p } X ρ S) := propext Iff.rfl
theorem q_uDrop {te : UE} {D : UEnds} {X : XS} {ρ : Rho} {S : Sto} : uDrop te D X ρ S = (te ρ S (fun _ S1 => D.nx ρ S1) (atR X ρ)) := propext Iff.rfl
theorem q_uRet {te : UE} {D : UEnds} {X : XS} {ρ : Rho} {S : Sto} : uRet te D X ρ S = (te ρ S D.rt (atR X ρ)) := propext Iff.rfl
theorem q_uRetN  {D : UEnds} {z1 : XS} {z2 : Rho} {S : Sto} : uRetN  D z1 z2 S = (D.rt .non S) := propext Iff.rfl
theorem q_uIfS {c : UT} {t u : US} {D : UEnds} {X : XS} {ρ : Rho} {S : Sto} : uIfS c t u D X ρ S = (c ρ S (fun b S1 => if b = true then t D X ρ S1 else u D X ρ S1) (atR X ρ)) := propext Iff.rfl
theorem q_uNever  {z0 : UEnds} {z1 : XS} {z2 : Rho} {z3 : Sto} : uNever  z0 z1 z2 z3 = (False) := propext Iff.rfl
theorem q_uSet {i : Nat} {te : UE} {D : UEnds} {X : XS} {ρ : Rho} {S : Sto} : uSet i te D X ρ S = (te ρ S (fun x S1 => D.nx (ρ.set i (some x)) S1) (atR X ρ)) := propext Iff.rfl
theorem q_uAsg {p : Pat} {te : UE} {D : UEnds} {X : XS} {ρ : Rho} {S : Sto} : uAsg p te D X ρ S = (te ρ S (fun x S1 => ∃ ρ2, patR p x ρ = some ρ2 ∧ D.nx ρ2 S1) (atR X ρ)) := propext Iff.rfl
theorem q_uPar {i j : Nat} {ta : UA} {D : UEnds} {X : XS} {ρ : Rho} {S : Sto} : uPar i j ta D X ρ S = (ta ρ S (fun xs S1 => ∃ x y, xs = [x, y] ∧ D.nx ((ρ.set i (some x)).set j (some y)) S1) (atR X ρ)) := propext Iff.rfl
theorem q_uAug {i : Nat} {g : Tr → Tr → Tr → Prop} {te : UE} {D : UEnds} {X : XS} {ρ : Rho} {S : Sto} : uAug i g te D X ρ S = (∃ x : Tr, ρ[i]? = some (some x) ∧ te ρ S (fun y S1 => ∃ z, g (vw S1 x) (vw S1 y) z ∧ D.nx (ρ.set i (some z)) S1) (atR X ρ)) := propext Iff.rfl
theorem q_uFor {ui : UI} {p : Pat} {tb : US} {D : UEnds} {X : XS} {ρ : Rho} {S : Sto} : uFor ui p tb D X ρ S = (ui ρ S (fun wk S1 => uLoop wk.ok p tb D X wk.xs ρ S1) (atR X ρ)) := propext Iff.rfl
theorem q_uSeqI {te : UE} {ρ : Rho} {S : Sto} {R : Walk → Sto → Prop} {X : QX} : uSeqI te ρ S R X = (te ρ S (fun x S1 => ∃ xs, (asL (vw S1 x) = some xs ∨ vw S1 x = .tup xs) ∧ R ⟨xs, fun S' => vw S' x = vw S1 x⟩ S1) X) := propext Iff.rfl
theorem q_uCall {tsp : TSp} {t : UA} {ρ : Rho} {S : Sto} {Q : QV} {X : QX} : uCall tsp t ρ S Q X = (t ρ S (fun xs S1 => tsp xs S1 Q X) X) := propext Iff.rfl
theorem q_uYes  {z0 : Rho} {S : Sto} {Q : QB} {z3 : QX} : uYes  z0 S Q z3 = (Q true S) := propext Iff.rfl
theorem q_uLc {ui : UI} {p : Pat} {tt : UT} {te : UE} {vs : List Nat} {ρ : Rho} {S : Sto} {Q : QV} {X : QX} : uLc ui p tt te vs ρ S Q X = (ui ρ S (fun wk S1 => uLcL wk.ok p tt te (wipeR ρ vs) Q wk.xs [] S1) X) := propext Iff.rfl
theorem q_uLcC {ui : UI} {p : Pat} {tt : UT} {te : UE} {vs : List Nat} {ρ : Rho} {S : Sto} {Q : QV} {X : QX} : uLcC ui p tt te vs ρ S Q X = (ui ρ S (fun wk S1 => uLcL wk.ok p tt te (wipeR ρ vs) (qCell Q) wk.xs [] S1) X) := propext Iff.rfl
theorem q_uPart {te : UE} {ρ : Rho} {S : Sto} {Q : Option Int → Sto → Prop} {X : QX} : uPart te ρ S Q X = (te ρ S (fun x S1 => ∃ i, vw S1 x = .int i ∧ Q (some i) S1) X) := propext Iff.rfl
theorem q_uNoPart  {ρ : Rho} {S : Sto} {Q : Option Int → Sto → Prop} {X : QX} : uNoPart  ρ S Q X = (Q none S) := propext Iff.rfl
theorem q_uSl {te : UE} {tl th : Rho → Sto → (Option Int → Sto → Prop) → QX → Prop} {ρ : Rho} {S : Sto} {Q : QV} {X : QX} : uSl te tl th ρ S Q X = (te ρ S (fun x S1 => tl ρ S1 (fun l S2 => th ρ S2 (fun u S3 => ∃ z, gSl (vw S3 x) l u z ∧ Q z S3) X) X) X) := propext Iff.rfl
theorem q_uIsi2 {K : PySem.W.Frag} {u w : Value} {te : UE} {ρ : Rho} {S : Sto} {Q : QV} {X : QX} : uIsi2 K u w te ρ S Q X = (te ρ S (fun x S1 => ∃ t b e, tyT K (vw S1 x) t ∧ PySem.W.kitOne K t u = some b ∧ PySem.W.kitOne K t w = some e ∧ Q (.bl (b || e)) S1) X) := propext Iff.rfl
theorem q_uRng1 {ta : UA} {ρ : Rho} {S : Sto} {R : Walk → Sto → Prop} {X : QX} : uRng1 ta ρ S R X = (ta ρ S (fun xs S1 => ∃ j, xs = [.int j] ∧ (-(2 ^ 62) ≤ j ∧ j < 2 ^ 62) ∧ R ⟨rngT 0 j.toNat, fun _ => True⟩ S1) X) := propext Iff.rfl
theorem q_uRng2 {ta : UA} {ρ : Rho} {S : Sto} {R : Walk → Sto → Prop} {X : QX} : uRng2 ta ρ S R X = (ta ρ S (fun xs S1 => ∃ i j, xs = [.int i, .int j] ∧ (-(2 ^ 62) ≤ i ∧ i < 2 ^ 62 ∧ -(2 ^ 62) ≤ j ∧ j < 2 ^ 62) ∧ R ⟨rngT i (j - i).toNat, fun _ => True⟩ S1) X) := propext Iff.rfl
theorem q_uStrI {te : UE} {ρ : Rho} {S : Sto} {R : Walk → Sto → Prop} {X : QX} : uStrI te ρ S R X = (te ρ S (fun x S1 => ∃ z, vw S1 x = .str z ∧ R ⟨z.cps.toList.map sgnT, fun _ => True⟩ S1) X) := propext Iff.rfl
theorem q_uEnum {ta : UA} {ρ : Rho} {S : Sto} {R : Walk → Sto → Prop} {X : QX} : uEnum ta ρ S R X = (ta ρ S (fun ys S1 => ∃ x xs, ys = [x] ∧ asL (vw S1 x) = some xs ∧ R ⟨enumT 0 xs, fun S' => vw S' x = vw S1 x⟩ S1) X) := propext Iff.rfl
theorem q_uFld {K : PySem.W.Frag} {f : Str} {te : UE} {ρ : Rho} {S : Sto} {Q : QV} {X : QX} : uFld K f te ρ S Q X = (te ρ S (fun x S1 => ∃ C fs xs y, vw S1 x = .ins C fs xs ∧ ClsF K C f ∧ fget f fs xs = some y ∧ Q y S1) X) := propext Iff.rfl
theorem q_uSFld {K : PySem.W.Frag} {f : Str} {to te : UE} {D : UEnds} {X : XS} {ρ : Rho} {S : Sto} : uSFld K f to te D X ρ S = (te ρ S (fun y S1 => to ρ S1 (fun x S2 => ∃ a C fs xs, x = .ref a ∧ S2 a = some (.ins C fs xs) ∧ ClsF K C f ∧ fs.length < 1000 ∧ D.nx ρ (put S2 a (.ins C (fputN f fs) (fputX f y fs xs)))) (atR X ρ)) (atR X ρ)) := propext Iff.rfl
theorem q_uDPut {to ti te : UE} {D : UEnds} {X : XS} {ρ : Rho} {S : Sto} : uDPut to ti te D X ρ S = (te ρ S (fun y S1 => to ρ S1 (fun x S2 => ti ρ S2 (fun j S3 => ∃ a ks xs k, x = .ref a ∧ S3 a = some (.dic ks xs) ∧ keyT (vw S3 j) = some k ∧ ks.length < sizeLine ∧ D.nx ρ (put S3 a (.dic (kputN k ks) (kputX k y ks xs)))) (atR X ρ)) (atR X ρ)) (atR X ρ)) := propext Iff.rfl
theorem q_uLPut {to ti te : UE} {D : UEnds} {X : XS} {ρ : Rho} {S : Sto} : uLPut to ti te D X ρ S = (te ρ S (fun y S1 => to ρ S1 (fun x S2 => ti ρ S2 (fun j S3 => ∃ a xs n k, x = .ref a ∧ S3 a = some (.lst xs) ∧ vw S3 j = .int n ∧ ixN xs.length n = some k ∧ D.nx ρ (put S3 a (.lst (xs.set k y)))) (atR X ρ)) (atR X ρ)) (atR X ρ)) := propext Iff.rfl
theorem q_uFrz {i : Nat} {u : US} {D : UEnds} {X : XS} {ρ : Rho} {S : Sto} : uFrz i u D X ρ S = (∃ (x y : Tr) (S' : Sto), ρ[i]? = some (some x) ∧ Frz x S y S' ∧ u D X (ρ.set i (some y)) S') := propext Iff.rfl
theorem q_uMt {T : String} {g : Tr → List Tr → Tr → Prop} {to : UE} {ta : UA} {ρ : Rho} {S : Sto} {Q : QV} {X : QX} : uMt T g to ta ρ S Q X = (to ρ S (fun x S1 => tyOk T (vw S1 x) ∧ ta ρ S1 (fun ys S2 => ∃ z, g (vw S2 x) (ys.map (vw S2)) z ∧ Q z S2) X) X) := propext Iff.rfl
theorem q_uMm {g : Sto → List Tr → List Tr → List Tr → Tr → Prop} {to : UE} {ta : UA} {ρ : Rho} {S : Sto} {Q : QV} {X : QX} : uMm g to ta ρ S Q X = (to ρ S (fun x S1 => tyOk "list" (vw S1 x) ∧ ta ρ S1 (fun ys S2 => ∃ a xs xs' z, x = .ref a ∧ S2 a = some (.lst xs) ∧ g S2 xs ys xs' z ∧ Q z (put S2 a (.lst xs'))) X) X) := propext Iff.rfl
theorem q_uForD {w : DK} {src : Rho → Sto → List Key → List Tr → Prop} {p : Pat} {tb : US} {D : UEnds} {X : XS} {ρ : Rho} {S : Sto} : uForD w src p tb D X ρ S = (∃ ks xs, src ρ S ks xs ∧ uLoop (fun _ => True) p tb D X (DK.list w ks xs) ρ S) := propext Iff.rfl
theorem q_uLcD {w : DK} {src : Rho → Sto → List Key → List Tr → Prop} {p : Pat} {tt : UT} {te : UE} {vs : List Nat} {ρ : Rho} {S : Sto} {Q : QV} {X : QX} : uLcD w src p tt te vs ρ S Q X = (∃ ks xs, src ρ S ks xs ∧ uLcL (fun _ => True) p tt te (wipeR ρ vs) Q (DK.list w ks xs) [] S) := propext Iff.rfl
theorem q_uMeth {m : Str} {ms : Addr → TSp → Prop} {to : UE} {ta : UA} {ρ : Rho} {S : Sto} {Q : QV} {X : QX} : uMeth m ms to ta ρ S Q X = (to ρ S (fun x S1 => ∃ C fs xs t, vw S1 x = .ins C fs xs ∧ ms C t ∧ fget m fs xs = none ∧ ta ρ S1 (fun ys S2 => t (x :: ys) S2 Q X) X) X) := propext Iff.rfl
theorem q_uDNew  {z0 : Rho} {S : Sto} {Q : QV} {z3 : QX} : uDNew  z0 S Q z3 = (∀ p, S p = none → Q (.ref p) (put S p (.dic [] []))) := propext Iff.rfl
theorem q_uFldAug {K : PySem.W.Frag} {f : Str} {g : Int → Int → Int} {to te : UE} {D : UEnds} {X : XS} {ρ : Rho} {S : Sto} : uFldAug K f g to te D X ρ S = (to ρ S (fun x S1 => ∃ a C fs xs i, x = .ref a ∧ S1 a = some (.ins C fs xs) ∧ ClsF K C f ∧ fget f fs xs = some (.int i) ∧ te ρ S1 (fun y S2 => ∃ fs2 xs2 j, vw S2 y = .int j ∧ S2 a = some (.ins C fs2 xs2) ∧ fs2.length < 1000 ∧ D.nx ρ (put S2 a (.ins C (fputN f fs2) (fputX f (.int (g i j)) fs2 xs2)))) (atR X ρ)) (atR X ρ)) := propext Iff.rfl
theorem q_uDisp {trs : List (UE × UE)} {ρ : Rho} {S : Sto} {Q : QV} {X : QX} : uDisp trs ρ S Q X = (uPairs trs ρ S (fun ps S2 => ∃ ks, keysOf ps = some ks ∧ ks.Nodup ∧ ks.length ≤ 15 ∧ ∀ p, S2 p = none → Q (.ref p) (put S2 p (.dic ks (ps.map (·.2))))) X) := propext Iff.rfl
theorem q_uIsi1 {K : PySem.W.Frag} {u : Value} {te : UE} {ρ : Rho} {S : Sto} {Q : QV} {X : QX} : uIsi1 K u te ρ S Q X = (te ρ S (fun x S1 => ∃ t b, tyT K (vw S1 x) t ∧ PySem.W.kitOne K t u = some b ∧ Q (.bl b) S1) X) := propext Iff.rfl
theorem q_uOBin {ms : Addr → TSp → Prop} {ta tb : UE} {ρ : Rho} {S : Sto} {Q : QV} {X : QX} : uOBin ms ta tb ρ S Q X = (ta ρ S (fun x S1 => tb ρ S1 (fun y S2 => ∃ C fs xs gs zs t, vw S2 x = .ins C fs xs ∧ vw S2 y = .ins C gs zs ∧ ms C t ∧ t [x, y] S2 Q X) X) X) := propext Iff.rfl
theorem q_uOIx {ms : Addr → TSp → Prop} {ta tb : UE} {ρ : Rho} {S : Sto} {Q : QV} {X : QX} : uOIx ms ta tb ρ S Q X = (ta ρ S (fun x S1 => tb ρ S1 (fun y S2 => ∃ C fs xs t, vw S2 x = .ins C fs xs ∧ ms C t ∧ t [x, y] S2 Q X) X) X) := propext Iff.rfl
theorem q_uOIn {n : Bool} {ms : Addr → TSp → Prop} {ta tb : UE} {ρ : Rho} {S : Sto} {Q : QV} {X : QX} : uOIn n ms ta tb ρ S Q X = (ta ρ S (fun x S1 => tb ρ S1 (fun y S2 => ∃ C fs xs t, vw S2 y = .ins C fs xs ∧ ms C t ∧ t [y, x] S2 (fun z S3 => ∃ b, z = .bl b ∧ Q (.bl (n ^^ b)) S3) X) X) X) := propext Iff.rfl
theorem q_uOLen {ms : Addr → TSp → Prop} {ta : UE} {ρ : Rho} {S : Sto} {Q : QV} {X : QX} : uOLen ms ta ρ S Q X = (ta ρ S (fun x S1 => ∃ C fs xs t, vw S1 x = .ins C fs xs ∧ ms C t ∧ t [x] S1 (fun z S2 => ∃ n : Int, z = .int n ∧ 0 ≤ n ∧ n < 9223372036854775808 ∧ Q (.int n) S2) X) X) := propext Iff.rfl
theorem q_uTry {K : PySem.W.Frag} {tb : US} {l : List (Value × Option Nat × SuU)} {D : UEnds} {X : XS} {ρ : Rho} {S : Sto} : uTry K tb l D X ρ S = (tb D (hX K D X l) ρ S) := propext Iff.rfl
theorem q_uXf {K : PySem.W.Frag} {e d : Addr} {k : Value} {f : Str} {te : UE} {ρ : Rho} {S : Sto} {Q : QV} {X : QX} : uXf K e d k f te ρ S Q X = (te ρ S (fun x S1 => ∃ C fs xs y, x = .exc e d k fs xs ∧ k = .ref C ∧ ExcC K C ∧ PySem.W.findIn K (.ref C) f = some none ∧ fget f fs xs = some y ∧ Q y S1) X) := propext Iff.rfl
theorem q_uIsE {K : PySem.W.Frag} {e d : Addr} {k u : Value} {te : UE} {ρ : Rho} {S : Sto} {Q : QV} {X : QX} : uIsE K e d k u te ρ S Q X = (te ρ S (fun x S1 => ∃ C fs xs b, x = .exc e d k fs xs ∧ k = .ref C ∧ ExcC K C ∧ PySem.W.kitOne K (.ref C) u = some b ∧ Q (.bl b) S1) X) := propext Iff.rfl
theorem q_uRaise {C : Addr} {fs : List Str} {ta : UA} {D : UEnds} {X : XS} {ρ : Rho} {S : Sto} : uRaise C fs ta D X ρ S = (ta ρ S (fun xs S1 => xs.length = fs.length ∧ X (.ref C) fs xs ρ S1) (atR X ρ)) := propext Iff.rfl
theorem q_uCallK {n m : Nat} {l : Pks} {ms : List Tr} {tsp : TSp} {ta tk : UA} {ρ : Rho} {S : Sto} {Q : QV} {X : QX} : uCallK n m l ms tsp ta tk ρ S Q X = (ta ρ S (fun xs S1 => tk ρ S1 (fun zs S2 => xs.length = n ∧ zs.length = m ∧ tsp (pick l xs ms zs) S2 Q X) X) X) := propext Iff.rfl
theorem q_uLcX {ui : UI} {p : Pat} {tt : UT} {te : UE} {vs : List Nat} {ρ : Rho} {S : Sto} {Q : QV} {X : QX} : uLcX ui p tt te vs ρ S Q X = (ui ρ S (fun wk S1 => uLcXL wk.ok p tt te (wipeR ρ vs) Q X wk.xs [] S1) X) := propext Iff.rfl
theorem q_uNewK {m : Nat} {l : Pks} {ms : List Tr} {tsp : TSp} {tk : UA} {ρ : Rho} {S : Sto} {Q : QV} {X : QX} : uNewK m l ms tsp tk ρ S Q X = (tk ρ S (fun zs S2 => zs.length = m ∧ tsp (pick l [] ms zs) S2 Q X) X) := propext Iff.rfl
theorem q_uOEq {K : PySem.W.Frag} {n : Bool} {ms : Addr → TSp → Prop} {ta tb : UE} {ρ : Rho} {S : Sto} {Q : QV} {X : QX} : uOEq K n ms ta tb ρ S Q X = (ta ρ S (fun x S1 => tb ρ S1 (fun y S2 => ∃ C fs xs t u, vw S2 x = .ins C fs xs ∧ ms C t ∧ tyT K (vw S2 y) u ∧ PySem.W.notFirst K C u = true ∧ t [x, y] S2 (fun z S3 => ∃ b, z = .bl b ∧ Q (.bl (n ^^ b)) S3) X) X) X) := propext Iff.rfl
theorem q_uListC {te : UE} {ρ : Rho} {S : Sto} {Q : QV} {X : QX} : uListC te ρ S Q X = (te ρ S (fun x S1 => ∃ ys, seqOf (vw S1 x) = some ys ∧ ∀ p, S1 p = none → Q (.ref p) (put S1 p (.lst ys))) X) := propext Iff.rfl
theorem q_uRev {te : UE} {ρ : Rho} {S : Sto} {Q : QV} {X : QX} : uRev te ρ S Q X = (te ρ S (fun x S1 => ∃ xs, asL (vw S1 x) = some xs ∧ Q (.lst xs.reverse) S1) X) := propext Iff.rfl
theorem q_uEnum2 {ta : UA} {ρ : Rho} {S : Sto} {R : Walk → Sto → Prop} {X : QX} : uEnum2 ta ρ S R X = (ta ρ S (fun ys S1 => ∃ x xs, ys = [x] ∧ (asL (vw S1 x) = some xs ∨ vw S1 x = .tup xs) ∧ R ⟨enumT 0 xs, fun S' => vw S' x = vw S1 x⟩ S1) X) := propext Iff.rfl
theorem q_uZip {ta : UA} {ρ : Rho} {S : Sto} {R : Walk → Sto → Prop} {X : QX} : uZip ta ρ S R X = (ta ρ S (fun us S1 => ∃ x y xs ys, us = [x, y] ∧ ((asL (vw S1 x) = some xs ∧ asL (vw S1 y) = some ys) ∨ (vw S1 x = .tup xs ∧ vw S1 y = .tup ys)) ∧ R ⟨zipT xs ys, fun S' => vw S' x = vw S1 x ∧ vw S' y = vw S1 y⟩ S1) X) := propext Iff.rfl
theorem q_uAddC {ta tb : UE} {ρ : Rho} {S : Sto} {Q : QV} {X : QX} : uAddC ta tb ρ S Q X = (ta ρ S (fun x S1 => tb ρ S1 (fun y S2 => ∃ xs ys, vw S2 x = .lst xs ∧ vw S2 y = .lst ys ∧ xs.length + ys.length ≤ sizeLine ∧ ∀ p, S2 p = none → Q (.ref p) (put S2 p (.lst (xs ++ ys)))) X) X) := propext Iff.rfl
theorem q_uFs {ts : List UE} {ρ : Rho} {S : Sto} {Q : QV} {X : QX} : uFs ts ρ S Q X = (uJs ts Str.empty ρ S (fun z S1 => Q (.str z) S1) X) := propext Iff.rfl
theorem q_uOBin2 {K : PySem.W.Frag} {op : Operator} {ms : Addr → TSp → Prop} {ta tb : UE} {ρ : Rho} {S : Sto} {Q : QV} {X : QX} : uOBin2 K op ms ta tb ρ S Q X = (ta ρ S (fun x S1 => tb ρ S1 (fun y S2 => ∃ C D fs xs gs zs t, vw S2 x = .ins C fs xs ∧ vw S2 y = .ins D gs zs ∧ OwnBin K op C D ∧ ms C t ∧ t [x, y] S2 Q X) X) X) := propext Iff.rfl
theorem q_uOInv {ms : Addr → TSp → Prop} {ta : UE} {ρ : Rho} {S : Sto} {Q : QV} {X : QX} : uOInv ms ta ρ S Q X = (ta ρ S (fun x S1 => ∃ C fs xs t, vw S1 x = .ins C fs xs ∧ ms C t ∧ t [x] S1 Q X) X) := propext Iff.rfl
theorem q_uCallO {ms : Addr → TSp → Prop} {tf : UE} {ta : UA} {ρ : Rho} {S : Sto} {Q : QV} {X : QX} : uCallO ms tf ta ρ S Q X = (tf ρ S (fun x S1 => (∃ C fs xs, vw S1 x = .ins C fs xs) ∧ ta ρ S1 (fun ys S2 => ∃ C gs zs t, vw S2 x = .ins C gs zs ∧ ms C t ∧ t (x :: ys) S2 Q X) X) X) := propext Iff.rfl
-- nosimp: put_noneE hasK_nil0 law_start law_noexc calleeT_fn kt
/-! ### looking at trees -/
section
variable {S : Sto} {a p : Addr} {c x y z : Tr} {xs ys : List Tr} {ρ : Rho} {i j : Nat} {n k : Int} {b b' : Bool} {s t : Str} {Q : QV}
theorem vw_refE : vw S (.ref a) = (S a).getD (.ref a) := rfl
theorem vw_non : vw S .non = .non := rfl
theorem vw_bl : vw S (.bl b) = .bl b := rfl
theorem vw_int : vw S (.int n) = .int n := rfl
theorem vw_str : vw S (.str s) = .str s := rfl
theorem vw_ty {T : String} : vw S (.ty T) = .ty T := rfl
theorem vw_lstE : vw S (.lst xs) = .lst xs := rfl
theorem vw_tupE : vw S (.tup xs) = .tup xs := rfl
theorem vw_scrE {ns : List Int} : vw S (.scr ns) = .scr ns := rfl
theorem vw_dicE {ks : List Key} : vw S (.dic ks xs) = .dic ks xs := rfl
theorem vw_insE {C : Addr} {fs : List Str} : vw S (.ins C fs xs) = .ins C fs xs := rfl
theorem put_sameE : put S a c a = some c := put_same
theorem put_putE {d : Tr} : put (put S a c) a d = put S a d := put_put
theorem getD_some {v w : Tr} : (some v).getD w = v := rfl
/-! ### targets -/
theorem pat_nm : patR (.nm i) x ρ = some (ρ.set i (some x)) := by simp [patR]
theorem pat_tp {ps : List Pat} : patR (.tp ps) (.tup xs) ρ = patsR ps xs ρ := by simp [patR]
theorem pats_nil : patsR [] [] ρ = some ρ := by simp [patsR]
theorem pats_cons {q : Pat} {ps : List Pat} : patsR (q :: ps) (x :: xs) ρ = (patR q x ρ).bind (patsR ps xs) := by
  unfold patsR
  cases h : patR q x ρ <;> simp [h]
theorem bind_s {α β : Type} {v : α} {f : α → Option β} : (some v).bind f = f v := rfl
theorem loop_nil {ok : Sto → Prop} {q : Pat} {tb : US} {D : UEnds} {X : XS} : uLoop ok q tb D X [] ρ S = (ok S ∧ D.nx ρ S) := propext Iff.rfl
theorem loop_cons {ok : Sto → Prop} {q : Pat} {tb : US} {D : UEnds} {X : XS} : uLoop ok q tb D X (x :: xs) ρ S = (ok S ∧ ∃ ρ2, patR q x ρ = some ρ2 ∧ tb { D with nx := uLoop ok q tb D X xs, ct := uLoop ok q tb D X xs, bk := D.nx } X ρ2 S) := propext Iff.rfl
theorem lcl_nil {ok : Sto → Prop} {q : Pat} {tt : UT} {te : UE} : uLcL ok q tt te ρ Q [] ys S = (ok S ∧ Q (.lst ys) S) := propext Iff.rfl
theorem lcl_cons {ok : Sto → Prop} {q : Pat} {tt : UT} {te : UE} : uLcL ok q tt te ρ Q (x :: xs) ys S = (ok S ∧ ∃ ρ2, patR q x ρ = some ρ2 ∧ tt ρ2 S (fun b S3 => if b = true then te ρ2 S3 (fun y S4 => ys.length < sizeLine ∧ uLcL ok q tt te ρ Q xs (ys ++ [y]) S4) X0 else uLcL ok q tt te ρ Q xs ys S3) X0) := propext Iff.rfl
theorem prs_nil {R : List (Tr × Tr) → Sto → Prop} {X : QX} : uPairs [] ρ S R X = R [] S := propext Iff.rfl
theorem prs_cons {e f : UE} {r : List (UE × UE)} {R : List (Tr × Tr) → Sto → Prop} {X : QX} : uPairs ((e, f) :: r) ρ S R X = e ρ S (fun x S1 => f ρ S1 (fun y S2 => uPairs r ρ S2 (fun ps S3 => R ((x, y) :: ps) S3) X) X) X := propext Iff.rfl
/-! ### operators -/
theorem add_ii : gAdd (.int n) (.int k) z = (z = .int (n + k)) := rfl
theorem add_ss : gAdd (.str s) (.str t) z = (s.length + t.length ≤ sizeLine ∧ z = .str (s ++ t)) := rfl
theorem add_ll : gAdd (.lst xs) (.lst ys) z = (xs.length + ys.length ≤ sizeLine ∧ z = .lst (xs ++ ys)) := rfl
theorem add_tt : gAdd (.tup xs) (.tup ys) z = (xs.length + ys.length ≤ sizeLine ∧ z = .tup (xs ++ ys)) := rfl
theorem int2_ii {C : Int → Int → Prop} {f : Int → Int → Tr} : gInt2 C f (.int n) (.int k) z = (C n k ∧ z = f n k) := rfl
theorem mul_ii : gMul (.int n) (.int k) z = ((CMul n k ∨ CMulW n k) ∧ z = .int (n * k)) := rfl
theorem mul_li : gMul (.lst xs) (.int k) z = ((-(2 ^ 63) ≤ k ∧ k < 2 ^ 63 ∧ xs.length * k.toNat ≤ sizeLine) ∧ z = .lst (List.replicate k.toNat xs).flatten) := rfl
theorem mul2_ii : gMul2 (.int n) (.int k) z = ((CMul n k ∨ CMulW n k) ∧ z = .int (n * k)) := rfl
theorem mul2_li : gMul2 (.lst xs) (.int k) z = ((-(2 ^ 63) ≤ k ∧ k < 2 ^ 63 ∧ xs.length * k.toNat ≤ sizeLine) ∧ z = .lst (List.replicate k.toNat xs).flatten) := rfl
theorem mul2_si : gMul2 (.str s) (.int k) z = (MulOk s k ∧ z = .str (Txt.mul s k)) := rfl
theorem js_nil {acc : Str} {Q : Str → Sto → Prop} {X : QX} : uJs [] acc ρ S Q X = Q acc S := propext Iff.rfl
theorem js_cons {acc : Str} {t : UE} {ts : List UE} {Q : Str → Sto → Prop} {X : QX} : uJs (t :: ts) acc ρ S Q X = t ρ S (fun x S1 => ∃ y : Str, x = .str y ∧ (acc ++ y).length ≤ sizeLine ∧ uJs ts (acc ++ y) ρ S1 Q X) X := propext Iff.rfl
theorem fmt_s : gFmtS (.str s) z = (s.length ≤ 1000 ∧ z = .str (padR s 16)) := propext ⟨fun ⟨y, e, h⟩ => by cases e; exact h, fun h => ⟨_, rfl, h⟩⟩
theorem fmt_n : gFmtN (.int n) z = (0 ≤ n ∧ n.natAbs.log2 < 1920 ∧ (numT n).length ≤ sizeLine ∧ z = .str (numT n)) := propext ⟨fun ⟨y, e, h⟩ => by cases e; exact h, fun h => ⟨_, rfl, h⟩⟩
theorem fmt_0s : gFmt (.str s) z = (s.length ≤ sizeLine ∧ z = .str s) := propext ⟨fun h => by rcases h with ⟨y, e, h⟩ | ⟨y, e, h⟩ <;> cases e; exact h, fun h => .inl ⟨_, rfl, h⟩⟩
theorem fmt_0i : gFmt (.int n) z = (n.natAbs.log2 < 1920 ∧ z = .str (toString n)) := propext ⟨fun h => by rcases h with ⟨y, e, h⟩ | ⟨y, e, h⟩ <;> cases e; exact h, fun h => .inr ⟨_, rfl, h⟩⟩
theorem neg_i : gNeg (.int n) z = (z = .int (-n)) := rfl
theorem is_g : gIs b x y z = (isKT y = true ∧ z = .bl (b ^^ isT x y)) := rfl
theorem isk_n : isKT .non = true := rfl
theorem isk_b : isKT (.bl b) = true := rfl
theorem is_nn : isT .non .non = true := rfl
theorem is_bn : isT (.bl b) .non = false := rfl
theorem is_in : isT (.int n) .non = false := rfl
theorem is_sn : isT (.str s) .non = false := rfl
theorem is_rn : isT (.ref a) .non = false := rfl
theorem is_ln : isT (.lst xs) .non = false := rfl
theorem is_tn : isT (.tup xs) .non = false := rfl
theorem is_dn {ks : List Key} : isT (.dic ks xs) .non = false := rfl
theorem is_on {C : Addr} {fs : List Str} : isT (.ins C fs xs) .non = false := rfl
theorem is_nb : isT .non (.bl b) = false := rfl
theorem is_bb : isT (.bl b) (.bl b') = (b == b') := rfl
theorem is_ib : isT (.int n) (.bl b) = false := rfl
theorem is_sb : isT (.str s) (.bl b) = false := rfl
theorem is_rb : isT (.ref a) (.bl b) = false := rfl
theorem is_lb : isT (.lst xs) (.bl b) = false := rfl
theorem is_tb : isT (.tup xs) (.bl b) = false := rfl
theorem is_ob {C : Addr} {fs : List Str} : isT (.ins C fs xs) (.bl b) = false := rfl
theorem eq_ii : gEq b (.int n) (.int k) z = (z = .bl (b ^^ decide (n = k))) := by
  apply propext
  constructor
  · rintro (⟨c, e, h⟩ | ⟨e, _⟩)
    · cases e; exact h
    · cases e
  · exact fun h => .inl ⟨_, rfl, h⟩
theorem eq_ss : gEq b (.str s) (.str t) z = (z = .bl (b ^^ decide (s = t))) := by
  apply propext
  constructor
  · rintro (⟨c, e, h⟩ | ⟨e, _⟩)
    · cases e; exact h
    · cases e
  · exact fun h => .inl ⟨_, rfl, h⟩
theorem eq_bb {c d : Bool} : gEq b (.bl c) (.bl d) z = (z = .bl (b ^^ decide (c = d))) := by
  apply propext
  constructor
  · rintro (⟨c, e, h⟩ | ⟨e, _⟩)
    · cases e; exact h
    · cases e
  · exact fun h => .inl ⟨_, rfl, h⟩
theorem ix_s : gIx (.str s) (.int n) z = (s.length ≤ sizeLine ∧ ∃ c, atI s.cps.toList n = some c ∧ z = .str ⟨#[c]⟩) := by
  apply propext
  constructor
  · rintro ⟨h, i, c, e, h1, h2⟩; cases e; exact ⟨h, c, h1, h2⟩
  · rintro ⟨h, c, h1, h2⟩; exact ⟨h, n, c, rfl, h1, h2⟩
theorem ix_l : gIx (.lst xs) (.int n) z = (atI xs n = some z) := by
  apply propext
  exact ⟨fun ⟨i, e, h⟩ => by cases e; exact h, fun h => ⟨n, rfl, h⟩⟩
theorem ix_t : gIx (.tup xs) (.int n) z = (atI xs n = some z) := by
  apply propext
  exact ⟨fun ⟨i, e, h⟩ => by cases e; exact h, fun h => ⟨n, rfl, h⟩⟩
theorem ix_c {ns : List Int} : gIx (.scr ns) (.int n) z = (∃ m, atI ns n = some m ∧ z = .int m) := by
  apply propext
  exact ⟨fun ⟨i, e, h⟩ => by cases e; exact h, fun h => ⟨n, rfl, h⟩⟩
theorem ix_d {ks : List Key} : gIx (.dic ks xs) y z = (∃ k, keyT y = some k ∧ kget k ks xs = some z) := rfl
theorem key_i : keyT (.int n) = some (.inl n) := rfl
theorem key_s : keyT (.str s) = some (.inr s) := rfl
theorem at_0 : atI (x :: xs) 0 = some x := atI_nat (j := 0) rfl
theorem at_1 {w : Tr} : atI (x :: w :: xs) 1 = some w := atI_nat (j := 1) rfl
theorem at_2 {v w : Tr} : atI (x :: v :: w :: xs) 2 = some w := atI_nat (j := 2) rfl
theorem in_s : gIn b x (.str t) z = (∃ c, x = .str ⟨#[c]⟩ ∧ z = .bl (b ^^ decide (c ∈ t.cps.toList))) := rfl
theorem in_l : gIn b x (.lst ys) z = (∃ v vs, flatT x = some v ∧ flatTs ys = some vs ∧ z = .bl (b ^^ inV v vs)) := rfl
theorem in_t : gIn b x (.tup ys) z = (∃ v vs, flatT x = some v ∧ flatTs ys = some vs ∧ z = .bl (b ^^ inV v vs)) := rfl
theorem in_d {ks : List Key} : gIn b x (.dic ks xs) z = (∃ k, keyT x = some k ∧ z = .bl (b ^^ hasK k ks)) := rfl
theorem fl_i : flatT (.int n) = some (.int n) := rfl
theorem fl_s : flatT (.str s) = some (.str s) := rfl
theorem fl_b : flatT (.bl b) = some (.bl b) := rfl
theorem fl_n : flatT .non = some .non := rfl
theorem len_s : gLen [.str s] z = (s.length ≤ sizeLine ∧ z = .int s.length) := rfl
theorem len_l : gLen [.lst ys] z = (z = .int ys.length) := rfl
theorem len_c {ns : List Int} : gLen [.scr ns] z = (z = .int ns.length) := rfl
theorem len_t : gLen [.tup ys] z = (z = .int ys.length) := rfl
theorem len_d {ks : List Key} : gLen [.dic ks ys] z = (z = .int ks.length) := rfl
theorem abs_i : gAbs [.int n] z = (z = .int n.natAbs) := rfl
theorem int_i : gInt [.int n] z = (z = .int n) := rfl
theorem int_b : gInt [.bl b] z = (z = .int (if b then 1 else 0)) := rfl
theorem int_s : gInt [.str s] z = (∃ n, PySem.intText? s = some n ∧ s.length ≤ 640 ∧ z = .int n) := rfl
theorem str_i : gStr [.int n] z = (n.natAbs.log2 < 1920 ∧ z = .str (Str.ofString (toString n))) := rfl
theorem str_s : gStr [.str s] z = (z = .str s) := rfl
theorem mm_ii {f : Int → Int → Int} : gMM f [.int n, .int k] z = (z = .int (f n k)) := rfl
theorem list_l : gList [.lst ys] z = (z = .lst ys) := rfl
theorem list_t : gList [.tup ys] z = (z = .lst ys) := rfl
theorem list_c {ns : List Int} : gList [.scr ns] z = (z = .lst (ns.map Tr.int)) := rfl
theorem tuple_l : gTuple [.lst ys] z = (z = .tup ys) := rfl
theorem tuple_t : gTuple [.tup ys] z = (z = .tup ys) := rfl
theorem sl_s {lo hi : Option Int} : gSl (.str s) lo hi z = (s.length ≤ sizeLine ∧ z = .str (cutS s lo hi)) := rfl
theorem sl_l {lo hi : Option Int} : gSl (.lst xs) lo hi z = (z = .lst (cutT xs lo hi)) := rfl
theorem sl_t {lo hi : Option Int} : gSl (.tup xs) lo hi z = (z = .tup (cutT xs lo hi)) := rfl
theorem sl_c {ns : List Int} {lo hi : Option Int} : gSl (.scr ns) lo hi z = (z = .lst (cutT (ns.map Tr.int) lo hi)) := rfl
theorem asl_l : asL (.lst xs) = some xs := rfl
theorem asl_c {ns : List Int} : asL (.scr ns) = some (ns.map Tr.int) := rfl
theorem asl_t : asL (.tup xs) = none := rfl
theorem ok_l : tyOk "list" (.lst xs) = True := eq_true rfl
theorem ok_s : tyOk "str" (.str s) = True := eq_true rfl
theorem app_1 {as : List Tr} : gAppend S xs [y] as z = (xs.length < sizeLine ∧ as = xs ++ [y] ∧ z = .non) := rfl
theorem ext_1 {as : List Tr} : gExtend S xs [y] as z = (∃ zs, vw S y = .lst zs ∧ xs.length + zs.length ≤ sizeLine ∧ as = xs ++ zs ∧ z = .non) := rfl
theorem ins_1 {as : List Tr} : gInsert S xs [.int n, y] as z = (xs.length < sizeLine ∧ 0 ≤ n ∧ n < 2 ^ 63 ∧ as = xs.take n.toNat ++ [y] ++ xs.drop n.toNat ∧ z = .non) := rfl
theorem pop_1 {as : List Tr} : gPop S xs [] as z = (xs[xs.length - 1]? = some z ∧ as = xs.dropLast) := by
  unfold gPop; simp
theorem join_t : gJoin (.str s) [.tup ys] z = (∃ ts : List Str, ys = ts.map Tr.str ∧ (ts.map (·.length)).sum + ts.length * s.length ≤ 16777216 ∧ z = .str (Txt.join s ts)) := rfl
theorem join_l : gJoin (.str s) [.lst ys] z = (∃ ts : List Str, ys = ts.map Tr.str ∧ (ts.map (·.length)).sum + ts.length * s.length ≤ 16777216 ∧ z = .str (Txt.join s ts)) := rfl
theorem isdig : gIsdigit (.str s) [] z = (z = .bl (Txt.isdigit s)) := rfl
theorem rmp : gRmp (.str s) [.str t] z = (s.length ≤ sizeLine ∧ z = .str (Txt.removeprefix s t)) := rfl
theorem all_l {f : List Bool → Bool} : gAll f [.lst ys] z = (∃ bs, blsOf ys = some bs ∧ z = .bl (f bs)) := rfl
end
section
variable {K : PySem.W.Frag} {x c : Tr} {z : Tr} {t u : Value} {n : Int} {b : Bool} {s : Str} {xs : List Tr}
theorem isi_2 : gIsi K [x, c] z = (∃ t u b, tyT K x t ∧ clsT c u ∧ PySem.W.kitOne K t u = some b ∧ z = .bl b) := rfl
theorem ty_n : tyT K .non t = (t = .type "NoneType") := rfl
theorem ty_b : tyT K (.bl b) t = (t = .type "bool") := rfl
theorem ty_i : tyT K (.int n) t = (t = .type "int") := rfl
theorem ty_s : tyT K (.str s) t = (t = .type "str") := rfl
theorem ty_l : tyT K (.lst xs) t = (t = .type "list") := rfl
theorem ty_t : tyT K (.tup xs) t = (t = .type "tuple") := rfl
theorem ty_o {C : Addr} {fs : List Str} : tyT K (.ins C fs xs) t = (ClsI K C ∧ t = .ref C) := rfl
theorem cls_t {T : String} : clsT (.ty T) u = (u = .type T) := rfl
theorem cls_c {C : Addr} : clsT (.ref C) u = (u = .ref C) := rfl
theorem kt {n T : String} {b : Bool} (h : kitB n T = some b) : PySem.W.kitOne K (.type n) (.type T) = some b := kit_ty h
theorem k_ni : PySem.W.kitOne K (.type "NoneType") (.type "int") = some false := kt kb_NoneType_int
theorem k_ns : PySem.W.kitOne K (.type "NoneType") (.type "str") = some false := kt kb_NoneType_str
theorem k_nb : PySem.W.kitOne K (.type "NoneType") (.type "bool") = some false := kt kb_NoneType_bool
theorem k_nl : PySem.W.kitOne K (.type "NoneType") (.type "list") = some false := kt kb_NoneType_list
theorem k_nt : PySem.W.kitOne K (.type "NoneType") (.type "tuple") = some false := kt kb_NoneType_tuple
theorem k_bi : PySem.W.kitOne K (.type "bool") (.type "int") = some true := kt kb_bool_int
theorem k_bs : PySem.W.kitOne K (.type "bool") (.type "str") = some false := kt kb_bool_str
theorem k_bb : PySem.W.kitOne K (.type "bool") (.type "bool") = some true := kt kb_bool_bool
theorem k_bl : PySem.W.kitOne K (.type "bool") (.type "list") = some false := kt kb_bool_list
theorem k_bt : PySem.W.kitOne K (.type "bool") (.type "tuple") = some false := kt kb_bool_tuple
theorem k_ii : PySem.W.kitOne K (.type "int") (.type "int") = some true := kt kb_int_int
theorem k_is : PySem.W.kitOne K (.type "int") (.type "str") = some false := kt kb_int_str
theorem k_ib : PySem.W.kitOne K (.type "int") (.type "bool") = some false := kt kb_int_bool
theorem k_il : PySem.W.kitOne K (.type "int") (.type "list") = some false := kt kb_int_list
theorem k_it : PySem.W.kitOne K (.type "int") (.type "tuple") = some false := kt kb_int_tuple
theorem k_si : PySem.W.kitOne K (.type "str") (.type "int") = some false := kt kb_str_int
theorem k_ss : PySem.W.kitOne K (.type "str") (.type "str") = some true := kt kb_str_str
theorem k_sb : PySem.W.kitOne K (.type "str") (.type "bool") = some false := kt kb_str_bool
theorem k_sl : PySem.W.kitOne K (.type "str") (.type "list") = some false := kt kb_str_list
theorem k_st : PySem.W.kitOne K (.type "str") (.type "tuple") = some false := kt kb_str_tuple
theorem k_li : PySem.W.kitOne K (.type "list") (.type "int") = some false := kt kb_list_int
theorem k_ls : PySem.W.kitOne K (.type "list") (.type "str") = some false := kt kb_list_str
theorem k_lb : PySem.W.kitOne K (.type "list") (.type "bool") = some false := kt kb_list_bool
theorem k_ll : PySem.W.kitOne K (.type "list") (.type "list") = some true := kt kb_list_list
theorem k_lt : PySem.W.kitOne K (.type "list") (.type "tuple") = some false := kt kb_list_tuple
theorem k_ti : PySem.W.kitOne K (.type "tuple") (.type "int") = some false := kt kb_tuple_int
theorem k_ts : PySem.W.kitOne K (.type "tuple") (.type "str") = some false := kt kb_tuple_str
theorem k_tb : PySem.W.kitOne K (.type "tuple") (.type "bool") = some false := kt kb_tuple_bool
theorem k_tl : PySem.W.kitOne K (.type "tuple") (.type "list") = some false := kt kb_tuple_list
theorem k_tt : PySem.W.kitOne K (.type "tuple") (.type "tuple") = some true := kt kb_tuple_tuple
end
theorem ofS_inj {a b : String} : (Str.ofString a = Str.ofString b) = (a = b) := by
  apply propext
  constructor
  · intro h
    have e := congrArg tl h
    rw [tl_ofString, tl_ofString] at e
    have e2 : a.toList = b.toList := by
      have inj : ∀ {l m : List Char}, l.map Char.toNat = m.map Char.toNat → l = m := by
        intro l
        induction l with
        | nil => intro m h; cases m with
          | nil => rfl
          | cons _ _ => cases h
        | cons x l ih => intro m h; cases m with
          | nil => cases h
          | cons y m =>
            rw [List.map_cons, List.map_cons] at h
            injection h with h1 h2
            rw [ih h2, Char.toNat_inj.mp h1]
      exact inj e
    exact String.toList_inj.mp e2
  · rintro rfl; rfl
theorem fget_c {f g : Str} {gs : List Str} {x : Tr} {xs : List Tr} : fget f (g :: gs) (x :: xs) = if f = g then some x else fget f gs xs := rfl
theorem fget_n {f : Str} {xs : List Tr} : fget f [] xs = none := rfl
theorem fputN_n {f : Str} : fputN f [] = [f] := rfl
theorem fputN_c {f g : Str} {gs : List Str} : fputN f (g :: gs) = if g = f then g :: gs else g :: fputN f gs := rfl
theorem fputX_n {f : Str} {y : Tr} {xs : List Tr} : fputX f y [] xs = [y] := by cases xs <;> rfl
theorem fputX_c {f g : Str} {gs : List Str} {x y : Tr} {xs : List Tr} : fputX f y (g :: gs) (x :: xs) = if g = f then y :: xs else x :: fputX f y gs xs := rfl
theorem map_vw0 {S : Sto} : ([] : List Tr).map (vw S) = [] := rfl
theorem map_vw {S : Sto} {x : Tr} {xs : List Tr} : (x :: xs).map (vw S) = vw S x :: xs.map (vw S) := rfl
theorem hX_nil {K : PySem.W.Frag} {D : UEnds} {X : XS} {k : Value} {fs : List Str} {xs : List Tr} {ρ : Rho} {S : Sto} : hX K D X [] k fs xs ρ S = X k fs xs ρ S := rfl
theorem hX_only {K : PySem.W.Frag} {D : UEnds} {X : XS} {k c : Value} {u : SuU} {r : List (Value × Option Nat × SuU)} {fs : List Str} {xs : List Tr} {ρ : Rho} {S : Sto} : hX K D X ((c, none, u) :: r) k fs xs ρ S = (∃ y, PySem.W.exmOne K k c = some y ∧ (y = true → ∀ e d, u e d k D XS0 ρ S) ∧ (y = false → hX K D X r k fs xs ρ S)) := propext Iff.rfl
theorem hX_named {K : PySem.W.Frag} {D : UEnds} {X : XS} {k c : Value} {i : Nat} {u : SuU} {r : List (Value × Option Nat × SuU)} {fs : List Str} {xs : List Tr} {ρ : Rho} {S : Sto} : hX K D X ((c, some i, u) :: r) k fs xs ρ S = (∃ y, PySem.W.exmOne K k c = some y ∧ (y = true → ∀ e d, u e d k (clrU i D) XS0 (ρ.set i (some (.exc e d k fs xs))) S) ∧ (y = false → hX K D X r k fs xs ρ S)) := propext Iff.rfl
theorem len_tf1 {x : Tr} {f : Str} : ([x].length = [f].length) = True := eq_true rfl
theorem len_tf2 {x y : Tr} {f g : Str} : ([x, y].length = [f, g].length) = True := eq_true rfl
theorem len_tf3 {x y z : Tr} {f g h : Str} : ([x, y, z].length = [f, g, h].length) = True := eq_true rfl
theorem clrU_nx {i : Nat} {D : UEnds} {ρ : Rho} {S : Sto} : (clrU i D).nx ρ S = D.nx (ρ.set i none) S := rfl
theorem clrU_rt {i : Nat} {D : UEnds} {x : Tr} {S : Sto} : (clrU i D).rt x S = D.rt x S := rfl
theorem clrU_bk {i : Nat} {D : UEnds} {ρ : Rho} {S : Sto} : (clrU i D).bk ρ S = D.bk (ρ.set i none) S := rfl
theorem clrU_ct {i : Nat} {D : UEnds} {ρ : Rho} {S : Sto} : (clrU i D).ct ρ S = D.ct (ρ.set i none) S := rfl
theorem vw_excE {S : Sto} {e d : Addr} {k : Value} {fs : List Str} {xs : List Tr} : vw S (.exc e d k fs xs) = .exc e d k fs xs := rfl
theorem atR_e {X : XS} {ρ : Rho} {c : Value} {fs : List Str} {xs : List Tr} {S : Sto} : atR X ρ c fs xs S = X c fs xs ρ S := rfl
theorem wipeR_n {ρ : Rho} : wipeR ρ [] = ρ := rfl
theorem wipeR_c {ρ : Rho} {i : Nat} {r : List Nat} : wipeR ρ (i :: r) = (wipeR ρ r).set i none := rfl
theorem endX_e {X : QX} {ρ : Rho} {c : Value} {fs : List Str} {xs : List Tr} {S : Sto} : endX X c fs xs ρ S = X c fs xs S := rfl
theorem endU_nx {Q : QV} {ρ : Rho} {S : Sto} : (endU Q).nx ρ S = Q .non S := rfl
theorem endU_rt {Q : QV} {x : Tr} {S : Sto} : (endU Q).rt x S = Q x S := rfl
theorem srcV_e {i : Nat} {ρ : Rho} {S : Sto} {ks : List Key} {xs : List Tr} : srcV i ρ S ks xs = (ρ[i]? = some (some (.dic ks xs))) := rfl
theorem srcF_e {K : PySem.W.Frag} {i : Nat} {f : Str} {ρ : Rho} {S : Sto} {ks : List Key} {xs : List Tr} : srcF K i f ρ S ks xs = (∃ (x : Tr) (C : Addr) (fs : List Str) (ys : List Tr), ρ[i]? = some (some x) ∧ vw S x = .ins C fs ys ∧ ClsF K C f ∧ fget f fs ys = some (.dic ks xs)) := propext Iff.rfl
theorem cmul_rE {i j : Int} (h1 : -18446744073709551616 < j) (h2 : j < 18446744073709551616) : (CMul i j ∨ CMulW i j) = True := eq_true (.inl (.inr ⟨h1, h2⟩))
theorem cmul_lE {i j : Int} (h1 : -18446744073709551616 < i) (h2 : i < 18446744073709551616) : (CMul i j ∨ CMulW i j) = True := eq_true (.inl (.inl ⟨h1, h2⟩))
theorem cpow_E {n : Int} (h0 : 0 ≤ n) (h1 : n ≤ 1000) : CPow 10 n = True := eq_true ⟨h0, by omega, by decide⟩
theorem szT0 : (([] : List Tr).length ≤ sizeLine) = True := eq_true (by show 0 ≤ sizeLine; decide)
theorem szT1 {x0 : Tr} : (([x0] : List Tr).length ≤ sizeLine) = True := eq_true (by show 1 ≤ sizeLine; decide)
theorem szT2 {x0 x1 : Tr} : (([x0, x1] : List Tr).length ≤ sizeLine) = True := eq_true (by show 2 ≤ sizeLine; decide)
theorem szT3 {x0 x1 x2 : Tr} : (([x0, x1, x2] : List Tr).length ≤ sizeLine) = True := eq_true (by show 3 ≤ sizeLine; decide)
theorem szT4 {x0 x1 x2 x3 : Tr} : (([x0, x1, x2, x3] : List Tr).length ≤ sizeLine) = True := eq_true (by show 4 ≤ sizeLine; decide)
theorem szT5 {x0 x1 x2 x3 x4 : Tr} : (([x0, x1, x2, x3, x4] : List Tr).length ≤ sizeLine) = True := eq_true (by show 5 ≤ sizeLine; decide)
theorem szT6 {x0 x1 x2 x3 x4 x5 : Tr} : (([x0, x1, x2, x3, x4, x5] : List Tr).length ≤ sizeLine) = True := eq_true (by show 6 ≤ sizeLine; decide)
theorem szT7 {x0 x1 x2 x3 x4 x5 x6 : Tr} : (([x0, x1, x2, x3, x4, x5, x6] : List Tr).length ≤ sizeLine) = True := eq_true (by show 7 ≤ sizeLine; decide)
theorem szT8 {x0 x1 x2 x3 x4 x5 x6 x7 : Tr} : (([x0, x1, x2, x3, x4, x5, x6, x7] : List Tr).length ≤ sizeLine) = True := eq_true (by show 8 ≤ sizeLine; decide)
theorem szT0' : (([] : List Tr).length < sizeLine) = True := eq_true (by show 0 < sizeLine; decide)
/-! ### classes as the top has made them; the law's end -/
structure ClsTop (K : PySem.W.Frag) (mg : Str → Option Value) (x : Str) (C : Addr) : Prop where
  mg : mg x = some (.ref C)
  ci : ClsI K C
  kp : PySem.W.keepIn K (.ref C) = true
  mak : PySem.W.makesIn K C = true
def sp_law : TSp := fun xs S Q X => ∃ ns : List Int, xs = [.scr ns] ∧ ns.length ≤ 63 ∧ Q (.bl true) S
theorem law_start {K : PySem.W.Frag} {H : Hp} {a : Addr} {ns : List Int} (hl : ns.length ≤ 63) (hS : SqL K H a (ns.map V.int)) : lSp K sp_law [.ref a] H (fun v _ => v = .bl true) (fun _ _ _ => False) := by
  refine ⟨fun _ => none, fun _ => none, fun _ => none, fun b => if b = a then H b else none, [.scr ns], ⟨fun b o e => ?_, fun b od e => (nomatch e), fun b c e => (nomatch e), fun b o e => (nomatch e)⟩, .cons ⟨a, rfl, ?_⟩ rfl, ns, rfl, hl, fun v H' I' _ _ r => r⟩
  · split at e
    · exact e
    · cases e
  · rcases hS with (h | ⟨o, h⟩) | h
    · exact .inl (.inl (by simpa using h))
    · exact .inl (.inr ⟨o, by simpa using h⟩)
    · exact .inr h
theorem law_noexc {P : Program} {w : World} {outer : List Env} {H : Hp} {s s' : Shared} {e : Value} (h : L2.CX P w outer H s (fun _ _ _ => False) e s') : False := by
  obtain ⟨_, _, _, _, _, _, _, _, _, _, _, _, z⟩ := h
  exact z
theorem calleeT_fn {P : Program} {w : World} {K : PySem.W.Frag} {mg : Str → Option Value} {base : Heap} {k : Nat} {x : Str} {ps : List Str} {t : TSp} {st : Stmt} {f : Addr} {fd : FuncData} (F : Fun K x x st f fd) (g : mg x = some (.ref f)) (C : CalleeT P w K mg base k x ps t) : FnOk P w K mg base (L2.CX P w) k f fd ps (lSp K t) := by
  obtain ⟨f', fd', g', kp, b, R, oc', od', sl', lk'⟩ := C.ex
  rw [g] at g'
  cases g'
  obtain ⟨oc, od, kV, doc, pm, an, cdv, ct, osl, e, lk, _⟩ := F.ex
  rw [lk] at lk'
  cases lk'
  exact R
theorem ex_sw1 {α β : Type} {p : β → Prop} {f : β → α} {q : α → Prop} : (∃ x, (∃ c, p c ∧ x = f c) ∧ q x) = (∃ c, p c ∧ q (f c)) := by
  apply propext
  exact ⟨fun ⟨x, ⟨c, h, e⟩, g⟩ => ⟨c, h, e ▸ g⟩, fun ⟨c, h, g⟩ => ⟨_, ⟨c, h, rfl⟩, g⟩⟩
theorem ex_sw2 {α β : Type} {p r : β → Prop} {f : β → α} {q : α → Prop} : (∃ x, (∃ c, p c ∧ r c ∧ x = f c) ∧ q x) = (∃ c, p c ∧ r c ∧ q (f c)) := by
  apply propext
  exact ⟨fun ⟨x, ⟨c, h, h2, e⟩, g⟩ => ⟨c, h, h2, e ▸ g⟩, fun ⟨c, h, h2, g⟩ => ⟨_, ⟨c, h, h2, rfl⟩, g⟩⟩
theorem kT_i {n : Int} : kT (.inl n) = .int n := rfl
theorem kT_s {z : Str} : kT (.inr z) = .str z := rfl
theorem sgn_inj {a b : Nat} : ((⟨#[a]⟩ : Str) = ⟨#[b]⟩) = (a = b) := by
  apply propext
  exact ⟨fun h => by injection h with h; injection h with h; injection h, fun h => h ▸ rfl⟩
theorem vw_kT {S : Sto} {k : Key} : vw S (kT k) = kT k := by cases k <;> rfl
theorem beq_ft : (false == true) = false := rfl
theorem beq_tf : (true == false) = false := rfl
theorem pick_nilE {us mv ws : List Tr} : pick [] us mv ws = [] := rfl
theorem pick_0E {i : Nat} {l : List (Nat × Nat)} {us mv ws : List Tr} {x : Tr} (h : us[i]? = some x) : pick ((0, i) :: l) us mv ws = x :: pick l us mv ws := pick_0 h
theorem pick_1E {i : Nat} {l : List (Nat × Nat)} {us mv ws : List Tr} {x : Tr} (h : mv[i]? = some x) : pick ((1, i) :: l) us mv ws = x :: pick l us mv ws := pick_1 h
theorem pick_2E {i : Nat} {l : List (Nat × Nat)} {us mv ws : List Tr} {x : Tr} (h : ws[i]? = some x) : pick ((2, i) :: l) us mv ws = x :: pick l us mv ws := pick_2 h
theorem str4_i {i : Int} {z : Tr} : gStr4 [.int i] z = (i.natAbs.log2 < 1920 ∧ z = .str (Str.ofString (toString i))) := rfl
theorem str4_s {a : Str} {z : Tr} : gStr4 [.str a] z = (z = .str a) := rfl
theorem str4_b {b : Bool} {z : Tr} : gStr4 [.bl b] z = (z = .str (if b then Str.ofString "True" else Str.ofString "False")) := rfl
theorem str4_n {z : Tr} : gStr4 [.non] z = (z = .str (Str.ofString "None")) := rfl
theorem list3_l {xs : List Tr} {z : Tr} : gList3 [.lst xs] z = (z = .lst xs) := by show (∃ ys, some xs = some ys ∧ _) = _; simp
theorem list3_t {xs : List Tr} {z : Tr} : gList3 [.tup xs] z = (z = .lst xs) := by show (∃ ys, some xs = some ys ∧ _) = _; simp
theorem list3_c {ns : List Int} {z : Tr} : gList3 [.scr ns] z = (z = .lst (ns.map Tr.int)) := by show (∃ ys, some _ = some ys ∧ _) = _; simp
theorem list3_d {ks : List Key} {xs : List Tr} {z : Tr} : gList3 [.dic ks xs] z = (z = .lst (ks.map kT)) := by show (∃ ys, some _ = some ys ∧ _) = _; simp
theorem seqOf_l {xs : List Tr} : seqOf (.lst xs) = some xs := rfl
theorem seqOf_t {xs : List Tr} : seqOf (.tup xs) = some xs := rfl
theorem seqOf_c {ns : List Int} : seqOf (.scr ns) = some (ns.map Tr.int) := rfl
theorem seqOf_d {ks : List Key} {xs : List Tr} : seqOf (.dic ks xs) = some (ks.map kT) := rfl
theorem lenE0 : (([] : List Tr).length = 0) = True := eq_true rfl
theorem lenE1 {x0 : Tr} : (([x0] : List Tr).length = 1) = True := eq_true rfl
theorem lenE2 {x0 x1 : Tr} : (([x0, x1] : List Tr).length = 2) = True := eq_true rfl
theorem lenE3 {x0 x1 x2 : Tr} : (([x0, x1, x2] : List Tr).length = 3) = True := eq_true rfl
theorem lenE4 {x0 x1 x2 x3 : Tr} : (([x0, x1, x2, x3] : List Tr).length = 4) = True := eq_true rfl
theorem lenE5 {x0 x1 x2 x3 x4 : Tr} : (([x0, x1, x2, x3, x4] : List Tr).length = 5) = True := eq_true rfl
theorem lenE6 {x0 x1 x2 x3 x4 x5 : Tr} : (([x0, x1, x2, x3, x4, x5] : List Tr).length = 6) = True := eq_true rfl
theorem lenE7 {x0 x1 x2 x3 x4 x5 x6 : Tr} : (([x0, x1, x2, x3, x4, x5, x6] : List Tr).length = 7) = True := eq_true rfl
theorem lenE8 {x0 x1 x2 x3 x4 x5 x6 x7 : Tr} : (([x0, x1, x2, x3, x4, x5, x6, x7] : List Tr).length = 8) = True := eq_true rfl
theorem lenE9 {x0 x1 x2 x3 x4 x5 x6 x7 x8 : Tr} : (([x0, x1, x2, x3, x4, x5, x6, x7, x8] : List Tr).length = 9) = True := eq_true rfl
theorem lenE10 {x0 x1 x2 x3 x4 x5 x6 x7 x8 x9 : Tr} : (([x0, x1, x2, x3, x4, x5, x6, x7, x8, x9] : List Tr).length = 10) = True := eq_true rfl
theorem lenS0 : ([] : List Str).length = 0 := rfl
theorem lenS1 {x0 : Str} : ([x0] : List Str).length = 1 := rfl
theorem lenS2 {x0 x1 : Str} : ([x0, x1] : List Str).length = 2 := rfl
theorem lenS3 {x0 x1 x2 : Str} : ([x0, x1, x2] : List Str).length = 3 := rfl
theorem lenS4 {x0 x1 x2 x3 : Str} : ([x0, x1, x2, x3] : List Str).length = 4 := rfl
theorem lenS5 {x0 x1 x2 x3 x4 : Str} : ([x0, x1, x2, x3, x4] : List Str).length = 5 := rfl
theorem lenS6 {x0 x1 x2 x3 x4 x5 : Str} : ([x0, x1, x2, x3, x4, x5] : List Str).length = 6 := rfl
theorem lenS7 {x0 x1 x2 x3 x4 x5 x6 : Str} : ([x0, x1, x2, x3, x4, x5, x6] : List Str).length = 7 := rfl
theorem lenS8 {x0 x1 x2 x3 x4 x5 x6 x7 : Str} : ([x0, x1, x2, x3, x4, x5, x6, x7] : List Str).length = 8 := rfl
theorem lenS9 {x0 x1 x2 x3 x4 x5 x6 x7 x8 : Str} : ([x0, x1, x2, x3, x4, x5, x6, x7, x8] : List Str).length = 9 := rfl
theorem lenS10 {x0 x1 x2 x3 x4 x5 x6 x7 x8 x9 : Str} : ([x0, x1, x2, x3, x4, x5, x6, x7, x8, x9] : List Str).length = 10 := rfl
theorem mapS_nil : (([] : List (Str × Tr)).map fun x => x.2) = [] := rfl
theorem mapS_cons {q : Str × Tr} {l : List (Str × Tr)} : ((q :: l).map fun x => x.2) = q.2 :: l.map fun x => x.2 := rfl
theorem nil_l {n : Bool} {xs : List Tr} {z : Tr} : gNil n (.lst xs) (.lst []) z = (z = .bl (n ^^ xs.isEmpty)) := by
  refine propext ⟨fun ⟨_, ys, e, h⟩ => ?_, fun h => ⟨rfl, xs, rfl, h⟩⟩
  cases e
  exact h
theorem eqF_g {n : Bool} {x y z : Tr} {c : Bool} (h : eqF x y = some c) : gEq n x y z = (z = .bl (n ^^ c)) := by
  apply propext
  constructor
  · rintro (⟨d, e, q⟩ | ⟨e, _⟩)
    · rw [h] at e; cases e; exact q
    · rw [h] at e; cases e
  · exact fun q => .inl ⟨_, h, q⟩
theorem eq_nn {n : Bool} {z : Tr} : gEq n .non .non z = (z = .bl (n ^^ true)) := eqF_g rfl
theorem eq_ns {n : Bool} {a : Str} {z : Tr} : gEq n .non (.str a) z = (z = .bl (n ^^ false)) := eqF_g rfl
theorem eq_sn {n : Bool} {a : Str} {z : Tr} : gEq n (.str a) .non z = (z = .bl (n ^^ false)) := eqF_g rfl
theorem eq_ni {n : Bool} {a : Int} {z : Tr} : gEq n .non (.int a) z = (z = .bl (n ^^ false)) := eqF_g rfl
theorem eq_in {n : Bool} {a : Int} {z : Tr} : gEq n (.int a) .non z = (z = .bl (n ^^ false)) := eqF_g rfl
theorem eq_is {n : Bool} {a : Int} {c : Str} {z : Tr} : gEq n (.int a) (.str c) z = (z = .bl (n ^^ false)) := eqF_g rfl
theorem eq_si {n : Bool} {a : Str} {c : Int} {z : Tr} : gEq n (.str a) (.int c) z = (z = .bl (n ^^ false)) := eqF_g rfl
theorem popAt_1 {S : Sto} {xs as : List Tr} {i : Int} {z : Tr} : gPopAt S xs [.int i] as z = (0 ≤ i ∧ i < 2 ^ 63 ∧ xs[i.toNat]? = some z ∧ as = xs.eraseIdx i.toNat) := by
  refine propext ⟨fun ⟨j, e, h⟩ => ?_, fun h => ⟨i, rfl, h⟩⟩
  cases e
  exact h
theorem ix3_0 {a b c : Tr} : ixN [a, b, c].length 0 = some 0 := rfl
theorem ix3_1 {a b c : Tr} : ixN [a, b, c].length 1 = some 1 := rfl
theorem ix3_2 {a b c : Tr} : ixN [a, b, c].length 2 = some 2 := rfl
theorem q_qCell {Q : QV} {S : Sto} {xs : List Tr} : qCell Q (.lst xs) S = (∀ p, S p = none → Q (.ref p) (put S p (.lst xs))) := propext ⟨fun ⟨_, e, q⟩ => by cases e; exact q, fun q => ⟨_, rfl, q⟩⟩
theorem upr {s : Str} {z : Tr} : gUpper (.str s) [] z = (s.length ≤ 5592405 ∧ z = .str (Txt.upper s)) := rfl
theorem q_uCv {C : Addr} {t : Tr} {te : UE} {ρ : Rho} {S : Sto} {Q : QV} {X : QX} : uCv C t te ρ S Q X = te ρ S (fun x S1 => x = .ref C ∧ Q t S1) X := propext Iff.rfl
theorem q_rep4 {xs : List Tr} {k : Int} {z : Tr} : gRep (.lst xs) (.int k) z = (-(2 ^ 63) ≤ k ∧ k < 2 ^ 63 ∧ xs.length * k.toNat ≤ sizeLine ∧ z = .lst (List.replicate k.toNat xs).flatten) := rfl
theorem q_uAsgL {ps : List Pat} {te : UE} {D : UEnds} {X : XS} {ρ : Rho} {S : Sto} : uAsgL ps te D X ρ S = (te ρ S (fun x S1 => ∃ xs, asL (vw S1 x) = some xs ∧ ∃ ρ2, patsR ps xs ρ = some ρ2 ∧ D.nx ρ2 S1) (atR X ρ)) := propext Iff.rfl
theorem q_uPar3 {i j l : Nat} {ta : UA} {D : UEnds} {X : XS} {ρ : Rho} {S : Sto} : uPar3 i j l ta D X ρ S = (ta ρ S (fun xs S1 => ∃ x y z, xs = [x, y, z] ∧ D.nx (((ρ.set i (some x)).set j (some y)).set l (some z)) S1) (atR X ρ)) := propext Iff.rfl

end KQ
namespace KQ
open PySem PySem.Spec PyProof.Rows L2 TL KB
/-! ### the source of draws: a dict of six -/
def srcKs : List Key := [.inr "cells", .inr "at", .inr "rest", .inr "seed", .inr "room", .inr "long"]
def srcT (ns : List Int) (at_ rest seed room long : Int) : Tr := .dic srcKs [.lst (ns.map Tr.int), .int at_, .int rest, .int seed, .int room, .int long]
/-- a source with room rm -/
def SrcC (rm : Int) (c : Tr) : Prop := ∃ ns at_ rest seed long, c = srcT ns at_ rest seed rm long ∧ 0 ≤ at_ ∧ 0 ≤ rest
theorem src_c {ns : List Int} {a r s m l : Int} : vw (fun _ => none) (srcT ns a r s m l) = srcT ns a r s m l := rfl
theorem sk_nd : srcKs.Nodup := by decide +kernel
theorem sget_cells {x b c d e f : Tr} : kget (.inr (Str.ofString "cells")) srcKs [x, b, c, d, e, f] = some x := by
  simp [srcKs, kget, ofS_inj]
theorem sget_at {x b c d e f : Tr} : kget (.inr (Str.ofString "at")) srcKs [x, b, c, d, e, f] = some b := by
  simp [srcKs, kget, ofS_inj]
theorem sget_rest {x b c d e f : Tr} : kget (.inr (Str.ofString "rest")) srcKs [x, b, c, d, e, f] = some c := by
  simp [srcKs, kget, ofS_inj]
theorem sget_seed {x b c d e f : Tr} : kget (.inr (Str.ofString "seed")) srcKs [x, b, c, d, e, f] = some d := by
  simp [srcKs, kget, ofS_inj]
theorem sget_room {x b c d e f : Tr} : kget (.inr (Str.ofString "room")) srcKs [x, b, c, d, e, f] = some e := by
  simp [srcKs, kget, ofS_inj]
theorem sget_long {x b c d e f : Tr} : kget (.inr (Str.ofString "long")) srcKs [x, b, c, d, e, f] = some f := by
  simp [srcKs, kget, ofS_inj]
theorem sN {k : Key} (h : hasK k srcKs = true) : kputN k srcKs = srcKs := if_pos h
theorem shas_at : hasK (.inr (Str.ofString "at")) srcKs = true := by decide +kernel
theorem shas_rest : hasK (.inr (Str.ofString "rest")) srcKs = true := by decide +kernel
theorem shas_seed : hasK (.inr (Str.ofString "seed")) srcKs = true := by decide +kernel
theorem shas_room : hasK (.inr (Str.ofString "room")) srcKs = true := by decide +kernel
theorem shas_long : hasK (.inr (Str.ofString "long")) srcKs = true := by decide +kernel
theorem sput_at {x b c d e f y : Tr} : kputX (.inr (Str.ofString "at")) y srcKs [x, b, c, d, e, f] = [x, y, c, d, e, f] := by
  unfold kputX; rw [if_pos shas_at]; simp [srcKs, kmap, ofS_inj]
theorem sput_rest {x b c d e f y : Tr} : kputX (.inr (Str.ofString "rest")) y srcKs [x, b, c, d, e, f] = [x, b, y, d, e, f] := by
  unfold kputX; rw [if_pos shas_rest]; simp [srcKs, kmap, ofS_inj]
theorem sput_seed {x b c d e f y : Tr} : kputX (.inr (Str.ofString "seed")) y srcKs [x, b, c, d, e, f] = [x, b, c, y, e, f] := by
  unfold kputX; rw [if_pos shas_seed]; simp [srcKs, kmap, ofS_inj]
theorem sput_room {x b c d e f y : Tr} : kputX (.inr (Str.ofString "room")) y srcKs [x, b, c, d, e, f] = [x, b, c, d, y, f] := by
  unfold kputX; rw [if_pos shas_room]; simp [srcKs, kmap, ofS_inj]
theorem sput_long {x b c d e f y : Tr} : kputX (.inr (Str.ofString "long")) y srcKs [x, b, c, d, e, f] = [x, b, c, d, e, y] := by
  unfold kputX; rw [if_pos shas_long]; simp [srcKs, kmap, ofS_inj]
theorem sN_at : kputN (.inr (Str.ofString "at")) srcKs = srcKs := sN shas_at
theorem sN_rest : kputN (.inr (Str.ofString "rest")) srcKs = srcKs := sN shas_rest
theorem sN_seed : kputN (.inr (Str.ofString "seed")) srcKs = srcKs := sN shas_seed
theorem sN_room : kputN (.inr (Str.ofString "room")) srcKs = srcKs := sN shas_room
theorem sN_long : kputN (.inr (Str.ofString "long")) srcKs = srcKs := sN shas_long
theorem sk_len : (srcKs.length < sizeLine) = True := eq_true (by show 6 < sizeLine; decide)
theorem srcT_eq {ns : List Int} {a r s m l : Int} : srcT ns a r s m l = .dic srcKs [.lst (ns.map Tr.int), .int a, .int r, .int s, .int m, .int l] := rfl
theorem int_at {ns : List Int} {i : Int} (h0 : 0 ≤ i) (h1 : i < ns.length) : ∃ n, atI (ns.map Tr.int) i = some (.int n) := by
  obtain ⟨j, rfl⟩ := Int.eq_ofNat_of_zero_le h0
  have hj : j < ns.length := by omega
  exact ⟨ns[j], atI_nat (by rw [List.getElem?_map, List.getElem?_eq_getElem hj]; rfl)⟩
theorem ne_cell {S : Sto} {a p : Addr} {c : Tr} (h : S a = some c) (n : S p = none) : p ≠ a := fun z => by subst z; rw [h] at n; cases n
/-! ### loops by an invariant -/
theorem loop_inv {ok : Sto → Prop} {p : Pat} {tb : US} {D : UEnds} {X : XS} (xs : List Tr) (Pv : Nat → Rho → Sto → Prop)
    (hs : ∀ (i : Nat) (x : Tr) (ρ : Rho) (S : Sto) (N : QS), xs[i]? = some x → Pv i ρ S → (∀ ρ' S', Pv (i + 1) ρ' S' → N ρ' S') → ok S ∧ ∃ ρ2, patR p x ρ = some ρ2 ∧ tb { D with nx := N, ct := N, bk := D.nx } X ρ2 S)
    (he : ∀ ρ S, Pv xs.length ρ S → ok S ∧ D.nx ρ S) {ρ : Rho} {S : Sto} (h0 : Pv 0 ρ S) : uLoop ok p tb D X xs ρ S := by
  have key : ∀ (n i : Nat) (ρ : Rho) (S : Sto), i + n = xs.length → Pv i ρ S → uLoop ok p tb D X (xs.drop i) ρ S := by
    intro n
    induction n with
    | zero =>
      intro i ρ S e h
      have e' : i = xs.length := by omega
      subst e'
      rw [List.drop_length]
      exact he ρ S h
    | succ n ih =>
      intro i ρ S e h
      have hl : i < xs.length := by omega
      rw [List.drop_eq_getElem_cons hl]
      exact hs i _ ρ S _ (List.getElem?_eq_getElem hl) h fun ρ' S' h' => ih (i + 1) ρ' S' (by omega) h'
  exact key xs.length 0 ρ S (by omega) h0
theorem lc_inv {ok : Sto → Prop} {p : Pat} {tt : UT} {te : UE} {ρ : Rho} {Q : QV} (xs : List Tr) (Pv : Nat → List Tr → Sto → Prop)
    (hs : ∀ (i : Nat) (x : Tr) (acc : List Tr) (S : Sto) (N : List Tr → Sto → Prop), xs[i]? = some x → Pv i acc S → (∀ acc' S', Pv (i + 1) acc' S' → N acc' S') → ok S ∧ ∃ ρ2, patR p x ρ = some ρ2 ∧ tt ρ2 S (fun b S3 => if b = true then te ρ2 S3 (fun y S4 => acc.length < sizeLine ∧ N (acc ++ [y]) S4) X0 else N acc S3) X0)
    (he : ∀ acc S, Pv xs.length acc S → ok S ∧ Q (.lst acc) S) {S : Sto} (h0 : Pv 0 [] S) : uLcL ok p tt te ρ Q xs [] S := by
  have key : ∀ (n i : Nat) (acc : List Tr) (S : Sto), i + n = xs.length → Pv i acc S → uLcL ok p tt te ρ Q (xs.drop i) acc S := by
    intro n
    induction n with
    | zero =>
      intro i acc S e h
      have e' : i = xs.length := by omega
      subst e'
      rw [List.drop_length]
      exact he acc S h
    | succ n ih =>
      intro i acc S e h
      have hl : i < xs.length := by omega
      rw [List.drop_eq_getElem_cons hl]
      exact hs i _ acc S _ (List.getElem?_eq_getElem hl) h fun acc' S' h' => ih (i + 1) acc' S' (by omega) h'
  exact key xs.length 0 [] S (by omega) h0
theorem rng_at {n i : Nat} {x : Tr} (h : (rngT 0 n)[i]? = some x) : x = .int i ∧ i < n := by
  have hi : i < n := by
    by_cases z : i < n
    · exact z
    · rw [List.getElem?_eq_none (by rw [rngT_len]; omega)] at h; cases h
  rw [rngT_get n 0 i hi] at h
  cases h
  exact ⟨by rw [Int.zero_add], hi⟩
theorem szn {n : Nat} (h : n ≤ 100000) : n < sizeLine := KB.sizeN h
/-- a comprehension that only reads: what it tests and what it gives -/
theorem lc_filt {α : Type} {ok : Sto → Prop} {p : Pat} {tt : UT} {te : UE} {ρ : Rho} {Q : QV} {S : Sto} (l : List α) (g f : α → Tr) (b : α → Bool) (hok : ok S) (hl : l.length ≤ 100000)
    (h : ∀ a ∈ l, ∀ (N1 : QV) (N2 : Sto → Prop), (b a = true → N1 (f a) S) → (b a = false → N2 S) → ∃ ρ2, patR p (g a) ρ = some ρ2 ∧ tt ρ2 S (fun c S3 => if c = true then te ρ2 S3 N1 X0 else N2 S3) X0) (hq : Q (.lst ((l.filter b).map f)) S) : uLcL ok p tt te ρ Q (l.map g) [] S := by
  refine lc_inv _ (fun i acc S' => acc = ((l.take i).filter b).map f ∧ S' = S) ?_ ?_ ⟨rfl, rfl⟩
  · rintro i x acc S' N hx ⟨rfl, rfl⟩ hN
    rw [List.getElem?_map] at hx
    obtain ⟨a, ha, rfl⟩ := Option.map_eq_some_iff.mp hx
    have hi := (List.getElem?_eq_some_iff.mp ha).1
    have et : l.take (i + 1) = l.take i ++ [a] := by rw [List.take_add_one, ha]; rfl
    have ln : (((l.take i).filter b).map f).length < sizeLine := szn (by
      rw [List.length_map]
      have := List.length_filter_le b (l.take i)
      rw [List.length_take] at this; omega)
    refine ⟨hok, h a (List.mem_of_getElem? ha) (fun y S4 => _ ∧ N (_ ++ [y]) S4) (fun S3 => N _ S3) (fun hb => ⟨ln, hN _ _ ⟨?_, rfl⟩⟩) fun hb => hN _ _ ⟨?_, rfl⟩⟩
    · rw [et, List.filter_append, List.map_append]; simp [hb]
    · rw [et, List.filter_append, List.map_append]; simp [hb]
  · rintro acc S' ⟨rfl, rfl⟩
    rw [List.length_map, List.take_of_length_le (Nat.le_refl _)]
    exact ⟨hok, hq⟩
theorem lc_map {α : Type} {ok : Sto → Prop} {p : Pat} {te : UE} {ρ : Rho} {Q : QV} {S : Sto} (l : List α) (g f : α → Tr) (hok : ok S) (hl : l.length ≤ 100000)
    (h : ∀ a ∈ l, ∀ (N1 : QV), N1 (f a) S → ∃ ρ2, patR p (g a) ρ = some ρ2 ∧ te ρ2 S N1 X0) (hq : Q (.lst (l.map f)) S) : uLcL ok p uYes te ρ Q (l.map g) [] S := by
  refine lc_filt l g f (fun _ => true) hok hl (fun a ha N1 N2 h1 h2 => ?_) (by rw [List.filter_eq_self.mpr (fun _ _ => rfl)]; exact hq)
  obtain ⟨ρ2, e, k⟩ := h a ha N1 (h1 rfl)
  exact ⟨ρ2, e, k⟩
/-! ### sources -/
def SrcOk (c : Tr) : Prop := ∃ (ns : List Int) (at_ rest seed room long : Int), c = srcT ns at_ rest seed room long ∧ 0 ≤ at_ ∧ 0 ≤ rest
def roomOf : Tr → Int
  | .dic _ [_, _, _, _, .int r, _] => r
  | _ => 0
/-- d is the source c after some draws -/
structure Drw (c d : Tr) : Prop where
  ok : SrcOk d
  rm : roomOf d = roomOf c
theorem Drw.trans {c d e : Tr} (h : Drw c d) (g : Drw d e) : Drw c e := ⟨g.ok, g.rm.trans h.rm⟩
theorem Drw.refl {c : Tr} (h : SrcOk c) : Drw c c := ⟨h, rfl⟩
def sp_draw : TSp := fun xs S Q X => ∃ (a : Addr) (m : Int) (c : Tr), xs = [.ref a, .int m] ∧ S a = some c ∧ SrcOk c ∧ 0 < m ∧ m ≤ 1000000000000000000000000000000 ∧ ∀ (r : Int) (c' : Tr), 0 ≤ r → r < m → Drw c c' → Q (.int r) (put S a c')
theorem cdiv_ok {i m : Int} (h0 : 0 < m) (h1 : m ≤ 1000000000000000000000000000000) : CDivW i m := by
  refine ⟨h0, ?_⟩
  by_cases h : m.natAbs = 0
  · rw [h]; decide
  · exact (Nat.log2_lt h).mpr (Nat.lt_of_le_of_lt (show m.natAbs ≤ 1000000000000000000000000000000 by omega) (Nat.lt_of_lt_of_le (show 1000000000000000000000000000000 < 2 ^ 100 by decide) (Nat.pow_le_pow_right (by decide) (by decide))))
theorem draw_ok {S : Sto} {a : Addr} {c : Tr} {m : Int} {Q : QV} {X : QX} (hS : S a = some c) (hc : SrcOk c) (m0 : 0 < m) (m1 : m ≤ 1000000000000000000000000000000) (hq : ∀ (r : Int) (c' : Tr), 0 ≤ r → r < m → Drw c c' → Q (.int r) (put S a c')) : sp_draw [.ref a, .int m] S Q X := ⟨a, m, c, rfl, hS, hc, m0, m1, hq⟩
/-- a draw of something: what it is by P -/
def sp_some (P : Tr → Prop) : TSp := fun xs S Q X => ∃ (a : Addr) (c : Tr), xs = [.ref a] ∧ S a = some c ∧ SrcOk c ∧ ∀ (y c' : Tr), P y → Drw c c' → Q y (put S a c')
theorem some_ok {P : Tr → Prop} {S : Sto} {a : Addr} {c : Tr} {Q : QV} {X : QX} (hS : S a = some c) (hc : SrcOk c) (hq : ∀ (y c' : Tr), P y → Drw c c' → Q y (put S a c')) : sp_some P [.ref a] S Q X := ⟨a, c, rfl, hS, hc, hq⟩
def IsNum (y : Tr) : Prop := ∃ n : Int, y = .int n ∧ n.natAbs < 10 ^ 30
def IsSign (y : Tr) : Prop := ∃ c : Nat, y = .str ⟨#[c]⟩ ∧ 32 ≤ c ∧ c < 127
def IsTxt (m : Nat) (y : Tr) : Prop := ∃ z : Str, y = .str z ∧ Pr z ∧ z.length ≤ m
def KOk : Key → Prop
  | .inl n => n.natAbs < 10 ^ 30
  | .inr z => Pr z ∧ z.length ≤ 300
def IsKey (y : Tr) : Prop := ∃ k, y = kT k ∧ KOk k
theorem IsNum.key {y : Tr} (h : IsNum y) : IsKey y := let ⟨n, e, h⟩ := h; ⟨.inl n, e, h⟩
theorem IsTxt.key {y : Tr} {m : Nat} (h : IsTxt m y) (hm : m ≤ 300) : IsKey y := let ⟨z, e, h, l⟩ := h; ⟨.inr z, e, h, Nat.le_trans l hm⟩
/-- an item of a written list -/
theorem menu_ex {xs : List Tr} {n : Nat} {r : Int} {R : Tr → Prop} (hn : xs.length = n) (r0 : 0 ≤ r) (r1 : r < n) (k : ∀ x ∈ xs, R x) : ∃ x, atI xs r = some x ∧ R x := by
  obtain ⟨j, rfl⟩ := Int.eq_ofNat_of_zero_le r0
  have hj : j < xs.length := by omega
  exact ⟨xs[j], atI_nat (List.getElem?_eq_getElem hj), k _ (List.getElem_mem hj)⟩
def okTx (m : Nat) : Tr → Bool
  | .str z => KB.okV m (.str z)
  | _ => false
theorem menu_tx {xs : List Tr} {m n : Nat} {r : Int} {R : Tr → Prop} (hn : xs.length = n) (hz : xs.all (okTx m) = true) (r0 : 0 ≤ r) (r1 : r < n) (k : ∀ z, Pr z → z.length ≤ m → R (.str z)) : ∃ x, atI xs r = some x ∧ R x := menu_ex hn r0 r1 fun x hx => by
  have q := List.all_eq_true.mp hz x hx
  cases x with
  | str z => exact k z (okS_pr q).1 (okS_pr q).2
  | _ => cases q
/-- the other laws' source: three numbers in a list -/
def DrOk (c : Tr) : Prop := ∃ g x y : Int, c = .lst [.int g, .int x, .int y] ∧ 0 ≤ g ∧ 0 ≤ x ∧ x < 2147483648 ∧ 0 ≤ y ∧ y < 2147483648
def sp_dr : TSp := fun xs S Q X => ∃ (a : Addr) (m : Int) (c : Tr), xs = [.ref a, .int m] ∧ S a = some c ∧ DrOk c ∧ 0 < m ∧ m ≤ 1000000000000000000000000000000 ∧ ∀ (r : Int) (c' : Tr), 0 ≤ r → r < m → DrOk c' → Q (.int r) (put S a c')
theorem dr_ok {S : Sto} {a : Addr} {c : Tr} {m : Int} {Q : QV} {X : QX} (hS : S a = some c) (hc : DrOk c) (m0 : 0 < m) (m1 : m ≤ 1000000000000000000000000000000) (hq : ∀ (r : Int) (c' : Tr), 0 ≤ r → r < m → DrOk c' → Q (.int r) (put S a c')) : sp_dr [.ref a, .int m] S Q X := ⟨a, m, c, rfl, hS, hc, m0, m1, hq⟩
def sp_dsome (P : Tr → Prop) : TSp := fun xs S Q X => ∃ (a : Addr) (c : Tr), xs = [.ref a] ∧ S a = some c ∧ DrOk c ∧ ∀ (y c' : Tr), P y → DrOk c' → Q y (put S a c')
theorem dsome_ok {P : Tr → Prop} {S : Sto} {a : Addr} {c : Tr} {Q : QV} {X : QX} (hS : S a = some c) (hc : DrOk c) (hq : ∀ (y c' : Tr), P y → DrOk c' → Q y (put S a c')) : sp_dsome P [.ref a] S Q X := ⟨a, c, rfl, hS, hc, hq⟩
/-! ### a second cell beside the source -/
theorem put3 {S : Sto} {a b : Addr} (n : b ≠ a) (d e f : Tr) : put (put (put S a d) b e) a f = put (put S a f) b e := by rw [put_comm n, put_put]
theorem put_id {S : Sto} {a : Addr} {c : Tr} (h : S a = some c) : put S a c = S := by
  funext b
  by_cases e : b = a
  · subst e; rw [put_same, h]
  · rw [put_ne e]
theorem sub_new {S : Sto} {p : Addr} {c : Tr} (h : S p = none) : Sub S (put S p c) := fun b d e => by rw [put_ne (fun z => by subst z; rw [h] at e; cases e)]; exact e
/-! ### keys -/
theorem kT_flat (k : Key) : flatT (kT k) = some (kV k) := by cases k <;> rfl
theorem kT_flats : ∀ ks : List Key, flatTs (ks.map kT) = some (ks.map kV)
  | [] => rfl
  | k :: ks => by rw [List.map_cons, List.map_cons]; unfold flatTs; rw [kT_flat, kT_flats ks]
theorem kT_key (k : Key) : keyT (kT k) = some k := by cases k <;> rfl
theorem kV_in (k : Key) (ks : List Key) : inV (kV k) (ks.map kV) = hasK k ks := by
  have e : ∀ a b : Key, eqV (kV a) (kV b) = decide (a = b) := fun a b => by
    cases a <;> cases b
    · show (_ == _) = _
      rw [Bool.eq_iff_iff, beq_iff_eq, decide_eq_true_eq, Sum.inl.injEq]
    · exact (decide_eq_false (fun h => nomatch h)).symm
    · exact (decide_eq_false (fun h => nomatch h)).symm
    · show (_ == _) = _
      rw [Bool.eq_iff_iff, beq_iff_eq, decide_eq_true_eq, Sum.inr.injEq]
  rw [Bool.eq_iff_iff, hasK_iff]
  unfold inV
  rw [List.any_eq_true]
  constructor
  · rintro ⟨y, hy, h⟩
    obtain ⟨j, hj, rfl⟩ := List.mem_map.mp hy
    rw [e, decide_eq_true_eq] at h
    exact h ▸ hj
  · intro h
    exact ⟨kV k, List.mem_map.mpr ⟨k, h, rfl⟩, by rw [e]; exact decide_eq_true rfl⟩
theorem nodup_put {k : Key} {ks : List Key} (h : ks.Nodup) (n : hasK k ks = false) : (ks ++ [k]).Nodup := by
  rw [List.nodup_append]
  refine ⟨h, by simp, fun a ha b hb z => ?_⟩
  rw [List.mem_singleton] at hb
  subst hb; subst z
  rw [hasK_iff.mpr ha] at n
  cases n
/-- xs != [] of a list of keys -/
theorem kT_toD : ∀ {ks : List Key}, (∀ k ∈ ks, KOk k) → ∃ ds, toDs (ks.map kT) = some ds ∧ PyData.canLayAll0 ds = true ∧ PyData.depthAll ds ≤ 1 ∧ ds.length = ks.length
  | [], _ => ⟨[], rfl, rfl, by decide, rfl⟩
  | k :: ks, h => by
    obtain ⟨ds, e, h1, h2, h3⟩ := kT_toD (ks := ks) fun j hj => h j (List.mem_cons_of_mem _ hj)
    cases k with
    | inl n =>
      refine ⟨.int n :: ds, by rw [List.map_cons]; unfold toDs; rw [e]; rfl, ?_, ?_, by simp [h3]⟩
      · show (true && PyData.canLayAll0 ds) = true
        rw [h1]; rfl
      · show max (PyData.depth (.int n)) (PyData.depthAll ds) ≤ 1
        have : PyData.depth (.int n) ≤ 1 := by simp [PyData.depth]
        omega
    | inr z =>
      refine ⟨.str z :: ds, by rw [List.map_cons]; unfold toDs; rw [e]; rfl, ?_, ?_, by simp [h3]⟩
      · show (PyData.strOk z && PyData.canLayAll0 ds) = true
        rw [h1, KB.pr_strOk (h _ (List.mem_cons_self ..)).1]; rfl
      · show max (PyData.depth (.str z)) (PyData.depthAll ds) ≤ 1
        have : PyData.depth (.str z) ≤ 1 := by simp [PyData.depth]
        omega
theorem kT_ne {ks : List Key} {n : Bool} {z : Tr} (h : ∀ k ∈ ks, KOk k) (e : z = .bl (n ^^ ks.isEmpty)) : gEq n (.lst (ks.map kT)) (.lst []) z := by
  obtain ⟨ds, e1, h1, h2, h3⟩ := kT_toD h
  refine .inr ⟨rfl, .list ds, .list [], by unfold toD; rw [e1]; rfl, rfl, ?_, by decide, ?_⟩
  · show (PyData.canLayAll0 ds && decide (PyData.depth (.list ds) ≤ 64)) = true
    have : PyData.depth (.list ds) ≤ 64 := by
      show PyData.depthAll ds + 1 ≤ 64
      omega
    rw [h1, decide_eq_true this]; rfl
  · have : PyData.eqv (.list ds) (.list []) = ks.isEmpty := by
      cases ks <;> cases ds <;> first | rfl | (simp at h3)
    rw [this]; exact e
end KQ
namespace KQ
open PySem PySem.Spec PyProof.Rows L2 TL KB
/-! ### values, as models and as what the program makes of them -/
mutual
def mT : Val → Tr
  | .non => .non
  | .bl b => .bl b
  | .int n => .int n
  | .str z => .str z
  | .lst vs => .tup [.str "list", .lst (mTL vs)]
  | .tup vs => .tup [.str "tuple", .lst (mTL vs)]
  | .tab ks vs => .tup [.str "table", .lst (mTP ks vs)]
def mTL : List Val → List Tr
  | [] => []
  | v :: vs => mT v :: mTL vs
def mTP : List Key → List Val → List Tr
  | k :: ks, v :: vs => .tup [kT k, mT v] :: mTP ks vs
  | _, _ => []
end
mutual
def vT (C : Addr) : Val → Tr
  | .non => .non
  | .bl b => .bl b
  | .int n => .int n
  | .str z => .str z
  | .lst vs => .lst (vTL C vs)
  | .tup vs => .tup (vTL C vs)
  | .tab ks vs => .ins C ["held"] [.dic ks (vTL C vs)]
def vTL (C : Addr) : List Val → List Tr
  | [] => []
  | v :: vs => vT C v :: vTL C vs
end
mutual
def VOk : Val → Prop
  | .non => True
  | .bl _ => True
  | .int n => n.natAbs < 10 ^ 30
  | .str z => Pr z ∧ z.length ≤ 300
  | .lst vs => VOkL vs
  | .tup vs => VOkL vs
  | .tab ks vs => VOkL vs ∧ ks.length = vs.length ∧ (∀ k ∈ ks, KOk k) ∧ ks.Nodup
def VOkL : List Val → Prop
  | [] => True
  | v :: vs => VOk v ∧ VOkL vs
end
theorem mTL_len : ∀ vs : List Val, (mTL vs).length = vs.length
  | [] => rfl
  | v :: vs => congrArg (· + 1) (mTL_len vs)
theorem vTL_len {C : Addr} : ∀ vs : List Val, (vTL C vs).length = vs.length
  | [] => rfl
  | v :: vs => congrArg (· + 1) (vTL_len vs)
theorem mTP_len : ∀ (ks : List Key) (vs : List Val), ks.length = vs.length → (mTP ks vs).length = vs.length
  | [], [], _ => rfl
  | k :: ks, v :: vs, e => congrArg (· + 1) (mTP_len ks vs (Nat.succ.inj e))
theorem mTL_snoc : ∀ (vs : List Val) (v : Val), mTL (vs ++ [v]) = mTL vs ++ [mT v]
  | [], _ => rfl
  | w :: vs, v => congrArg (mT w :: ·) (mTL_snoc vs v)
theorem vTL_snoc {C : Addr} : ∀ (vs : List Val) (v : Val), vTL C (vs ++ [v]) = vTL C vs ++ [vT C v]
  | [], _ => rfl
  | w :: vs, v => congrArg (vT C w :: ·) (vTL_snoc vs v)
theorem mTP_snoc : ∀ (ks : List Key) (vs : List Val) (k : Key) (v : Val), ks.length = vs.length → mTP (ks ++ [k]) (vs ++ [v]) = mTP ks vs ++ [.tup [kT k, mT v]]
  | [], [], _, _, _ => rfl
  | j :: ks, w :: vs, k, v, e => congrArg (Tr.tup [kT j, mT w] :: ·) (mTP_snoc ks vs k v (Nat.succ.inj e))
theorem mTL_get : ∀ {vs : List Val} {i : Nat} {x : Tr}, (mTL vs)[i]? = some x → ∃ v, vs[i]? = some v ∧ x = mT v
  | [], i, x, e => by simp [mTL] at e
  | v :: vs, 0, x, e => ⟨v, rfl, (Option.some.inj e).symm⟩
  | v :: vs, i + 1, x, e => mTL_get (vs := vs) (i := i) e
theorem vTL_get {C : Addr} : ∀ {vs : List Val} {i : Nat} {x : Tr}, (vTL C vs)[i]? = some x → ∃ v, vs[i]? = some v ∧ x = vT C v
  | [], i, x, e => by simp [vTL] at e
  | v :: vs, 0, x, e => ⟨v, rfl, (Option.some.inj e).symm⟩
  | v :: vs, i + 1, x, e => vTL_get (vs := vs) (i := i) e
theorem mTP_get : ∀ {ks : List Key} {vs : List Val} {i : Nat} {x : Tr}, (mTP ks vs)[i]? = some x → ∃ k v, ks[i]? = some k ∧ vs[i]? = some v ∧ x = .tup [kT k, mT v]
  | [], [], i, x, e => by simp [mTP] at e
  | [], _ :: _, i, x, e => by simp [mTP] at e
  | _ :: _, [], i, x, e => by simp [mTP] at e
  | k :: ks, v :: vs, 0, x, e => ⟨k, v, rfl, rfl, (Option.some.inj e).symm⟩
  | k :: ks, v :: vs, i + 1, x, e => mTP_get (ks := ks) (vs := vs) (i := i) e
theorem VOkL.snoc : ∀ {vs : List Val} {v : Val}, VOkL vs → VOk v → VOkL (vs ++ [v])
  | [], _, _, h => ⟨h, trivial⟩
  | w :: vs, v, h, g => ⟨h.1, VOkL.snoc h.2 g⟩
theorem VOkL.get : ∀ {vs : List Val} {i : Nat} {v : Val}, VOkL vs → vs[i]? = some v → VOk v
  | [], i, v, _, e => by simp at e
  | w :: vs, 0, v, h, e => (Option.some.inj e) ▸ h.1
  | w :: vs, i + 1, v, h, e => VOkL.get (vs := vs) (i := i) h.2 e
theorem vpL_snoc : ∀ (vs : List Val) (v : Val), vpartsL (vs ++ [v]) = vpartsL vs + vparts v
  | [], v => by simp [vpartsL]
  | w :: vs, v => by
    show vparts w + vpartsL (vs ++ [v]) = vparts w + vpartsL vs + vparts v
    rw [vpL_snoc vs v]; omega
theorem vdL_snoc : ∀ (vs : List Val) (v : Val), vdepthL (vs ++ [v]) = max (vdepthL vs) (vdepth v)
  | [], v => by simp [vdepthL]
  | w :: vs, v => by
    show max (vdepth w) (vdepthL (vs ++ [v])) = max (max (vdepth w) (vdepthL vs)) (vdepth v)
    rw [vdL_snoc vs v]; omega
theorem vpL_take {vs : List Val} {i : Nat} {v : Val} (h : vs[i]? = some v) : vpartsL (vs.take (i + 1)) = vpartsL (vs.take i) + vparts v := by
  rw [List.take_add_one, h]
  exact vpL_snoc _ _
theorem vpL_app : ∀ (vs ws : List Val), vpartsL (vs ++ ws) = vpartsL vs + vpartsL ws
  | [], ws => by simp [vpartsL]
  | v :: vs, ws => by
    show vparts v + vpartsL (vs ++ ws) = vparts v + vpartsL vs + vpartsL ws
    rw [vpL_app vs ws]; omega
theorem vdL_app : ∀ (vs ws : List Val), vdepthL (vs ++ ws) = max (vdepthL vs) (vdepthL ws)
  | [], ws => by simp [vdepthL]
  | v :: vs, ws => by
    show max (vdepth v) (vdepthL (vs ++ ws)) = max (max (vdepth v) (vdepthL vs)) (vdepthL ws)
    rw [vdL_app vs ws]; omega
theorem okL_app : ∀ {vs ws : List Val}, VOkL (vs ++ ws) ↔ VOkL vs ∧ VOkL ws
  | [], ws => ⟨fun h => ⟨trivial, h⟩, fun h => h.2⟩
  | v :: vs, ws => ⟨fun h => ⟨⟨h.1, (okL_app.mp h.2).1⟩, (okL_app.mp h.2).2⟩, fun h => ⟨h.1.1, okL_app.mpr ⟨h.1.2, h.2⟩⟩⟩
/-- put in at n -/
def insN {α : Type} (n : Nat) (x : α) (xs : List α) : List α := xs.take n ++ [x] ++ xs.drop n
theorem insN_perm {α : Type} (n : Nat) (x : α) (xs : List α) : (insN n x xs).Perm (xs ++ [x]) := by
  unfold insN
  refine (List.Perm.append_right _ List.perm_append_comm).trans ?_
  rw [List.append_assoc, List.take_append_drop]
  exact List.perm_append_comm
theorem insN_len {α : Type} (n : Nat) (x : α) (xs : List α) : (insN n x xs).length = xs.length + 1 := by rw [(insN_perm n x xs).length_eq]; simp
theorem zip_insN {α β : Type} (n : Nat) (k : α) (v : β) (ks : List α) (vs : List β) (e : ks.length = vs.length) : (insN n k ks).zip (insN n v vs) = insN n (k, v) (ks.zip vs) := by
  unfold insN
  rw [List.zip_append (by simp [e]), List.zip_append (by simp [e])]
  simp [List.zip, List.take_zipWith, List.drop_zipWith]
theorem mTP_zip : ∀ (ks : List Key) (vs : List Val), mTP ks vs = (ks.zip vs).map fun p => Tr.tup [kT p.1, mT p.2]
  | [], [] => rfl
  | [], _ :: _ => rfl
  | _ :: _, [] => rfl
  | k :: ks, v :: vs => congrArg (Tr.tup [kT k, mT v] :: ·) (mTP_zip ks vs)
theorem mTP_ins {n : Nat} {k : Key} {v : Val} {ks : List Key} {vs : List Val} (e : ks.length = vs.length) : insN n (.tup [kT k, mT v]) (mTP ks vs) = mTP (insN n k ks) (insN n v vs) := by
  rw [mTP_zip, mTP_zip, zip_insN n k v ks vs e]
  unfold insN
  simp
theorem vpL_ins (n : Nat) (v : Val) (vs : List Val) : vpartsL (insN n v vs) = vpartsL vs + vparts v := by
  unfold insN
  have := vpL_app (vs.take n) (vs.drop n)
  rw [List.take_append_drop] at this
  rw [vpL_app, vpL_app, this]
  show _ + (_ + 0) + _ = _
  omega
theorem vdL_ins (n : Nat) (v : Val) (vs : List Val) : vdepthL (insN n v vs) = max (vdepthL vs) (vdepth v) := by
  unfold insN
  have := vdL_app (vs.take n) (vs.drop n)
  rw [List.take_append_drop] at this
  rw [vdL_app, vdL_app, this]
  show max (max _ (max _ 0)) _ = _
  omega
theorem okL_ins (n : Nat) {v : Val} {vs : List Val} (h : VOkL vs) (g : VOk v) : VOkL (insN n v vs) := by
  unfold insN
  rw [← List.take_append_drop n vs] at h
  have h := okL_app.mp h
  exact okL_app.mpr ⟨h.1.snoc g, h.2⟩
/-! ### the same but for the order of tables -/
mutual
def Shf : Val → Val → Prop
  | .lst vs, w => ∃ ws, w = .lst ws ∧ ShfL vs ws
  | .tup vs, w => ∃ ws, w = .tup ws ∧ ShfL vs ws
  | .tab ks vs, w => ∃ js ws us, w = .tab js ws ∧ ShfL vs us ∧ js.length = ws.length ∧ (js.zip ws).Perm (ks.zip us)
  | v, w => w = v
def ShfL : List Val → List Val → Prop
  | [], ws => ws = []
  | v :: vs, ws => ∃ w us, ws = w :: us ∧ Shf v w ∧ ShfL vs us
end
theorem ShfL.snoc : ∀ {vs ws : List Val} {v w : Val}, ShfL vs ws → Shf v w → ShfL (vs ++ [v]) (ws ++ [w])
  | [], _, v, w, h, g => by cases h; exact ⟨w, [], rfl, g, rfl⟩
  | x :: vs, _, v, w, h, g => by
    obtain ⟨y, us, rfl, h1, h2⟩ := h
    exact ⟨y, us ++ [w], rfl, h1, h2.snoc g⟩
theorem ShfL.len : ∀ {vs ws : List Val}, ShfL vs ws → ws.length = vs.length
  | [], _, h => by cases h; rfl
  | x :: vs, _, h => by
    obtain ⟨y, us, rfl, h1, h2⟩ := h
    exact congrArg (· + 1) h2.len
theorem vTP_get {C : Addr} : ∀ {ks : List Key} {vs : List Val} {i : Nat} {x : Tr}, (List.zipWith (fun k v => Tr.tup [kT k, vT C v]) ks vs)[i]? = some x → ∃ k v, ks[i]? = some k ∧ vs[i]? = some v ∧ x = .tup [kT k, vT C v]
  | [], [], i, x, e => by simp at e
  | [], _ :: _, i, x, e => by simp at e
  | _ :: _, [], i, x, e => by simp at e
  | k :: ks, v :: vs, 0, x, e => ⟨k, v, rfl, rfl, (Option.some.inj e).symm⟩
  | k :: ks, v :: vs, i + 1, x, e => vTP_get (ks := ks) (vs := vs) (i := i) (by simpa using e)
/-- the entries of a table -/
def vTP (C : Addr) (ks : List Key) (vs : List Val) : List Tr := List.zipWith (fun k v => Tr.tup [kT k, vT C v]) ks vs
theorem vTP_snoc {C : Addr} {ks : List Key} {vs : List Val} {k : Key} {v : Val} (e : ks.length = vs.length) : vTP C (ks ++ [k]) (vs ++ [v]) = vTP C ks vs ++ [.tup [kT k, vT C v]] := by
  unfold vTP
  rw [List.zipWith_append e]
  rfl
theorem vTP_len {C : Addr} {ks : List Key} {vs : List Val} (e : ks.length = vs.length) : (vTP C ks vs).length = vs.length := by
  unfold vTP
  rw [List.length_zipWith, e, Nat.min_self]
/-- a key as a value -/
def kVal : Key → Val
  | .inl n => .int n
  | .inr z => .str z
theorem kVal_T {C : Addr} (k : Key) : vT C (kVal k) = kT k := by cases k <;> rfl
def isI : Val → Bool
  | .int _ => true
  | _ => false
theorem nodup_at {ks : List Key} {i : Nat} {k : Key} (n : ks.Nodup) (e : ks[i]? = some k) : hasK k (ks.take i) = false := by
  rw [← Bool.not_eq_true, hasK_iff]
  intro h
  obtain ⟨hi, e2⟩ := List.getElem?_eq_some_iff.mp e
  have : (ks.take i ++ ks.drop i).Nodup := by rw [List.take_append_drop]; exact n
  rw [List.nodup_append] at this
  refine this.2.2 k h k ?_ rfl
  rw [List.drop_eq_getElem_cons hi, e2]
  exact List.mem_cons_self ..
theorem vals_list : ∀ {ks : List Key} {xs : List Tr}, ks.length = xs.length → DK.list .vals ks xs = xs
  | [], [], _ => rfl
  | k :: ks, x :: xs, e => congrArg (x :: ·) (vals_list (Nat.succ.inj e))
theorem keys_list : ∀ {ks : List Key} {xs : List Tr}, ks.length = xs.length → DK.list .keys ks xs = ks.map kT
  | [], [], _ => rfl
  | k :: ks, x :: xs, e => by cases k <;> exact congrArg (_ :: ·) (keys_list (Nat.succ.inj e))
theorem items_list {C : Addr} : ∀ {ks : List Key} {vs : List Val}, ks.length = vs.length → DK.list .items ks (vTL C vs) = vTP C ks vs
  | [], [], _ => rfl
  | k :: ks, v :: vs, e => by cases k <;> exact congrArg (_ :: ·) (items_list (Nat.succ.inj e))
/-! ### tables as pairs -/
def pK (ps : List (Key × Val)) : List Key := ps.map (·.1)
def pV (ps : List (Key × Val)) : List Val := ps.map (·.2)
def tabV (ps : List (Key × Val)) : Val := .tab (pK ps) (pV ps)
def pT (ps : List (Key × Val)) : List Tr := ps.map fun p => .tup [kT p.1, mT p.2]
def pVT (C : Addr) (ps : List (Key × Val)) : List Tr := ps.map fun p => .tup [kT p.1, vT C p.2]
theorem mTP_p : ∀ ps, mTP (pK ps) (pV ps) = pT ps
  | [] => rfl
  | p :: ps => congrArg (_ :: ·) (mTP_p ps)
theorem vTP_p {C : Addr} : ∀ ps, vTP C (pK ps) (pV ps) = pVT C ps
  | [] => rfl
  | p :: ps => congrArg (_ :: ·) (vTP_p ps)
theorem vTL_map {C : Addr} : ∀ vs, vTL C vs = vs.map (vT C)
  | [] => rfl
  | v :: vs => congrArg (_ :: ·) (vTL_map vs)
theorem pT_get {ps : List (Key × Val)} {i : Nat} {x : Tr} (h : (pT ps)[i]? = some x) : ∃ p, ps[i]? = some p ∧ x = .tup [kT p.1, mT p.2] := by
  unfold pT at h
  rw [List.getElem?_map] at h
  cases e : ps[i]? with
  | none => rw [e] at h; cases h
  | some p => rw [e] at h; exact ⟨p, rfl, (Option.some.inj h).symm⟩
theorem pVT_get {C : Addr} {ps : List (Key × Val)} {i : Nat} {x : Tr} (h : (pVT C ps)[i]? = some x) : ∃ p, ps[i]? = some p ∧ x = .tup [kT p.1, vT C p.2] := by
  unfold pVT at h
  rw [List.getElem?_map] at h
  cases e : ps[i]? with
  | none => rw [e] at h; cases h
  | some p => rw [e] at h; exact ⟨p, rfl, (Option.some.inj h).symm⟩
theorem pT_len (ps : List (Key × Val)) : (pT ps).length = ps.length := List.length_map ..
theorem pVT_len {C : Addr} (ps : List (Key × Val)) : (pVT C ps).length = ps.length := List.length_map ..
theorem take_snoc {α : Type} {l : List α} {i : Nat} {p : α} (h : l[i]? = some p) : l.take (i + 1) = l.take i ++ [p] := by rw [List.take_add_one, h]; rfl
theorem eq_kk {b : Bool} {j k : Key} {z : Tr} : gEq b (kT j) (kT k) z = (z = .bl (b ^^ decide (j = k))) := by
  have e : eqF (kT j) (kT k) = some (decide (j = k)) := by
    cases j <;> cases k
    · show some _ = some _
      rw [Option.some.injEq, Bool.eq_iff_iff, decide_eq_true_eq, decide_eq_true_eq, Sum.inl.injEq]
    · exact congrArg some (decide_eq_false (fun h => nomatch h)).symm
    · exact congrArg some (decide_eq_false (fun h => nomatch h)).symm
    · show some _ = some _
      rw [Option.some.injEq, Bool.eq_iff_iff, decide_eq_true_eq, decide_eq_true_eq, Sum.inr.injEq]
  apply propext
  constructor
  · rintro (⟨c, h1, h2⟩ | ⟨h1, _⟩)
    · rw [e] at h1; cases h1; exact h2
    · rw [e] at h1; cases h1
  · exact fun h => .inl ⟨_, e, h⟩
/-- what the pairs of a law's table keep to -/
structure PsOk (n : Nat) (ps : List (Key × Val)) : Prop where
  nd : (pK ps).Nodup
  len : ps.length ≤ n
  ok : ∀ p ∈ ps, KOk p.1 ∧ VOk p.2 ∧ vdepth p.2 ≤ 3 ∧ vparts p.2 ≤ 100
theorem pv_bounds : ∀ {ps : List (Key × Val)}, (∀ p ∈ ps, KOk p.1 ∧ VOk p.2 ∧ vdepth p.2 ≤ 3 ∧ vparts p.2 ≤ 100) → VOkL (pV ps) ∧ vdepthL (pV ps) ≤ 3 ∧ vpartsL (pV ps) ≤ 100 * ps.length
  | [], _ => ⟨trivial, by decide, by decide⟩
  | p :: ps, h => by
    obtain ⟨h1, h2, h3⟩ := pv_bounds (ps := ps) fun q hq => h q (List.mem_cons_of_mem _ hq)
    obtain ⟨g1, g2, g3, g4⟩ := h p (List.mem_cons_self ..)
    refine ⟨⟨g2, h1⟩, ?_, ?_⟩
    · show max (vdepth p.2) (vdepthL (pV ps)) ≤ 3; omega
    · show vparts p.2 + vpartsL (pV ps) ≤ 100 * (ps.length + 1); omega
theorem PsOk.val {n : Nat} {ps : List (Key × Val)} (h : PsOk n ps) : VOk (tabV ps) ∧ vdepth (tabV ps) ≤ 4 ∧ vparts (tabV ps) ≤ 1 + 100 * n := by
  obtain ⟨h1, h2, h3⟩ := pv_bounds h.ok
  have := h.len
  refine ⟨⟨h1, by unfold pK pV; simp, fun k hk => ?_, h.nd⟩, ?_, ?_⟩
  · obtain ⟨p, hp, rfl⟩ := List.mem_map.mp hk
    exact (h.ok p hp).1
  · show 1 + vdepthL (pV ps) ≤ 4; omega
  · show 1 + vpartsL (pV ps) ≤ 1 + 100 * n; omega
def putP (k : Key) (v : Val) (ps : List (Key × Val)) : List (Key × Val) := if hasK k (pK ps) = true then ps.map (fun p => (p.1, if p.1 = k then v else p.2)) else ps ++ [(k, v)]
def takeP (k : Key) (ps : List (Key × Val)) : List (Key × Val) := ps.filter fun p => !decide (p.1 = k)
theorem PsOk.more {n m : Nat} {ps : List (Key × Val)} (h : PsOk n ps) (l : n ≤ m) : PsOk m ps := ⟨h.nd, Nat.le_trans h.len l, h.ok⟩
theorem PsOk.take {n : Nat} {k : Key} {ps : List (Key × Val)} (h : PsOk n ps) : PsOk n (takeP k ps) :=
  ⟨h.nd.sublist (List.Sublist.map _ List.filter_sublist), Nat.le_trans (List.length_filter_le ..) h.len, fun p hp => h.ok p (List.mem_filter.mp hp).1⟩
theorem PsOk.put {n : Nat} {k : Key} {v : Val} {ps : List (Key × Val)} (h : PsOk n ps) (hk : KOk k) (h1 : VOk v) (h2 : vdepth v ≤ 3) (h3 : vparts v ≤ 100) : PsOk (n + 1) (putP k v ps) := by
  unfold putP
  have := h.len
  split
  · refine ⟨?_, by rw [List.length_map]; omega, fun p hp => ?_⟩
    · have e : pK (ps.map (fun p => (p.1, if p.1 = k then v else p.2))) = pK ps := by unfold pK; rw [List.map_map]; rfl
      rw [e]; exact h.nd
    · obtain ⟨q, hq, rfl⟩ := List.mem_map.mp hp
      have g := h.ok q hq
      refine ⟨g.1, ?_⟩
      show VOk (if q.1 = k then v else q.2) ∧ vdepth (if q.1 = k then v else q.2) ≤ 3 ∧ vparts (if q.1 = k then v else q.2) ≤ 100
      split
      · exact ⟨h1, h2, h3⟩
      · exact g.2
  · rename_i hn
    refine ⟨?_, by rw [List.length_append]; show ps.length + 1 ≤ _; omega, fun p hp => ?_⟩
    · have e : pK (ps ++ [(k, v)]) = pK ps ++ [k] := by unfold pK; rw [List.map_append]; rfl
      rw [e]; exact nodup_put h.nd (by simpa using hn)
    · rcases List.mem_append.mp hp with hp | hp
      · exact h.ok p hp
      · rw [List.mem_singleton.mp hp]; exact ⟨hk, h1, h2, h3⟩
theorem PsOk.ent {n : Nat} {ps : List (Key × Val)} (h : PsOk n ps) (l : n ≤ 400) : (pK ps).length = (pV ps).length ∧ (pK ps).Nodup ∧ vdepthL (pV ps) ≤ 61 ∧ vpartsL (pV ps) ≤ 50000 := by
  obtain ⟨h1, h2, h3⟩ := pv_bounds h.ok
  have := h.len
  exact ⟨by unfold pK pV; simp, h.nd, by omega, by omega⟩
def lookP (k : Key) (qs : List (Key × Val)) : Option Val := (qs.find? fun q => decide (q.1 = k)).map (·.2)
def orP (ps qs : List (Key × Val)) : List (Key × Val) := ps.map (fun p => (p.1, (lookP p.1 qs).getD p.2)) ++ qs.filter fun q => !hasK q.1 (pK ps)
theorem kget_p {C : Addr} {k : Key} : ∀ {qs : List (Key × Val)}, kget k (pK qs) (vTL C (pV qs)) = (lookP k qs).map (vT C)
  | [] => rfl
  | q :: qs => by
    show (if k = q.1 then some (vT C q.2) else kget k (pK qs) (vTL C (pV qs))) = _
    unfold lookP
    rw [List.find?_cons]
    by_cases h : k = q.1
    · rw [if_pos h, decide_eq_true h.symm]; rfl
    · rw [if_neg h, decide_eq_false (fun z => h z.symm), kget_p]; rfl
theorem has_look {k : Key} : ∀ {qs : List (Key × Val)}, hasK k (pK qs) = (lookP k qs).isSome
  | [] => rfl
  | q :: qs => by
    have ih := has_look (k := k) (qs := qs)
    unfold lookP at ih ⊢
    rw [List.find?_cons]
    show (decide (q.1 = k) || hasK k (pK qs)) = _
    cases h : decide (q.1 = k) with
    | true => rfl
    | false => rw [Bool.false_or]; exact ih
theorem kget_self {C : Addr} {ps : List (Key × Val)} {i : Nat} {p : Key × Val} (nd : (pK ps).Nodup) (e : ps[i]? = some p) : kget p.1 (pK ps) (vTL C (pV ps)) = some (vT C p.2) := by
  rw [kget_p]
  have : lookP p.1 ps = some p.2 := by
    unfold lookP
    have hm := List.mem_of_getElem? e
    cases hf : ps.find? fun q => decide (q.1 = p.1) with
    | none => exact absurd (List.find?_eq_none.mp hf p hm) (by simp)
    | some q =>
      have hq := List.mem_of_find?_eq_some hf
      have he : q.1 = p.1 := by have := List.find?_some hf; simpa using this
      have inj : ∀ {l : List (Key × Val)}, (pK l).Nodup → q ∈ l → p ∈ l → q = p := by
        intro l
        induction l with
        | nil => intro _ h; cases h
        | cons x l ih =>
          intro hn h1 h2
          have hn2 : x.1 ∉ pK l ∧ (pK l).Nodup := List.nodup_cons.mp hn
          rcases List.mem_cons.mp h1 with e1 | m1
          · rcases List.mem_cons.mp h2 with e2 | m2
            · rw [e1, e2]
            · exact absurd (show x.1 ∈ pK l from List.mem_map.mpr ⟨p, m2, by rw [← e1]; exact he.symm⟩) hn2.1
          · rcases List.mem_cons.mp h2 with e2 | m2
            · exact absurd (show x.1 ∈ pK l from List.mem_map.mpr ⟨q, m1, by rw [← e2]; exact he⟩) hn2.1
            · exact ih hn2.2 m1 m2
      rw [inj nd hq hm]; rfl
  rw [this]; rfl
theorem or_one {k : Key} {v : Val} {ps : List (Key × Val)} : orP ps [(k, v)] = putP k v ps := by
  unfold orP putP
  have e : ∀ p : Key × Val, (lookP p.1 [(k, v)]).getD p.2 = if p.1 = k then v else p.2 := fun p => by
    unfold lookP
    rw [List.find?_cons]
    by_cases h : p.1 = k
    · rw [if_pos h]; simp [h]
    · rw [if_neg h, decide_eq_false (fun z : k = p.1 => h z.symm)]; rfl
  have e2 : ps.map (fun p => (p.1, (lookP p.1 [(k, v)]).getD p.2)) = ps.map (fun p => (p.1, if p.1 = k then v else p.2)) := List.map_congr_left fun p _ => by rw [e]
  cases h : hasK k (pK ps) with
  | true => rw [if_pos rfl, e2]; simp [h]
  | false =>
    rw [if_neg (by simp)]
    have e3 : ps.map (fun p => (p.1, (lookP p.1 [(k, v)]).getD p.2)) = ps := by
      rw [e2]
      have : ∀ p ∈ ps, (fun p : Key × Val => (p.1, if p.1 = k then v else p.2)) p = id p := fun p hp => by
        have hn : ¬ p.1 = k := fun z => by
          have : hasK k (pK ps) = true := hasK_iff.mpr (List.mem_map.mpr ⟨p, hp, z⟩)
          rw [h] at this; cases this
        show (p.1, if p.1 = k then v else p.2) = p
        rw [if_neg hn]
      rw [List.map_congr_left this, List.map_id]
    rw [e3]; simp [h]
theorem pK_or {ps qs : List (Key × Val)} : pK (orP ps qs) = pK ps ++ pK (qs.filter fun q => !hasK q.1 (pK ps)) := by
  unfold orP pK
  rw [List.map_append, List.map_map]
  rfl
theorem has_app {k : Key} {ks js : List Key} : hasK k (ks ++ js) = (hasK k ks || hasK k js) := by unfold hasK; rw [List.any_append]
theorem has_filter {k : Key} {qs : List (Key × Val)} {f : Key → Bool} : hasK k (pK (qs.filter fun q => f q.1)) = (f k && hasK k (pK qs)) := by
  rw [Bool.eq_iff_iff, Bool.and_eq_true, hasK_iff, hasK_iff]
  constructor
  · intro h
    obtain ⟨q, hq, rfl⟩ := List.mem_map.mp h
    have := List.mem_filter.mp hq
    exact ⟨this.2, List.mem_map.mpr ⟨q, this.1, rfl⟩⟩
  · rintro ⟨h1, h2⟩
    obtain ⟨q, hq, rfl⟩ := List.mem_map.mp h2
    exact List.mem_map.mpr ⟨q, List.mem_filter.mpr ⟨hq, h1⟩, rfl⟩
theorem has_or {k : Key} {ps qs : List (Key × Val)} : hasK k (pK (orP ps qs)) = (hasK k (pK ps) || hasK k (pK qs)) := by
  rw [pK_or, has_app, has_filter (f := fun j => !hasK j (pK ps))]
  cases hasK k (pK ps) <;> simp
theorem look_map {k : Key} {f : Key → Val → Val} : ∀ {qs : List (Key × Val)}, lookP k (qs.map fun q => (q.1, f q.1 q.2)) = (lookP k qs).map (f k)
  | [] => rfl
  | q :: qs => by
    have ih := look_map (k := k) (f := f) (qs := qs)
    unfold lookP at ih ⊢
    rw [List.map_cons, List.find?_cons, List.find?_cons]
    by_cases h : q.1 = k
    · simp [h]
    · simp only [decide_eq_false h]; exact ih
theorem look_app {k : Key} {qs rs : List (Key × Val)} : lookP k (qs ++ rs) = (lookP k qs).or (lookP k rs) := by
  unfold lookP
  rw [List.find?_append]
  cases qs.find? fun q => decide (q.1 = k) <;> simp
theorem look_filter {k : Key} {f : Key → Bool} : ∀ {qs : List (Key × Val)}, lookP k (qs.filter fun q => f q.1) = if f k = true then lookP k qs else none
  | [] => by simp [lookP]
  | q :: qs => by
    have ih := look_filter (k := k) (f := f) (qs := qs)
    unfold lookP at ih ⊢
    rw [List.filter_cons, List.find?_cons]
    by_cases h : q.1 = k
    · cases hf : f q.1 with
      | true => rw [if_pos rfl, List.find?_cons, decide_eq_true h, ← h, hf]; rfl
      | false =>
        rw [if_neg (by simp), ih, ← h, hf]; simp
    · cases hf : f q.1 with
      | true => rw [if_pos rfl, List.find?_cons, decide_eq_false h]; exact ih
      | false => rw [if_neg (by simp), decide_eq_false h]; exact ih
theorem look_or {k : Key} {qs rs : List (Key × Val)} : lookP k (orP qs rs) = (lookP k rs).or (lookP k qs) := by
  unfold orP
  rw [look_app, look_map (f := fun j v => (lookP j rs).getD v), look_filter (f := fun j => !hasK j (pK qs)), has_look]
  cases lookP k qs <;> cases lookP k rs <;> simp
theorem or_assoc {ps qs rs : List (Key × Val)} : orP ps (orP qs rs) = orP (orP ps qs) rs := by
  have e1 : ps.map (fun p => (p.1, (lookP p.1 (orP qs rs)).getD p.2)) = (ps.map (fun p => (p.1, (lookP p.1 qs).getD p.2))).map (fun p => (p.1, (lookP p.1 rs).getD p.2)) := by
    rw [List.map_map]
    refine List.map_congr_left fun p _ => ?_
    show (p.1, (lookP p.1 (orP qs rs)).getD p.2) = (p.1, (lookP p.1 rs).getD ((lookP p.1 qs).getD p.2))
    rw [look_or]
    cases lookP p.1 rs <;> simp
  have e2 : (orP qs rs).filter (fun q => !hasK q.1 (pK ps)) = (qs.filter (fun q => !hasK q.1 (pK ps))).map (fun p => (p.1, (lookP p.1 rs).getD p.2)) ++ rs.filter (fun q => !hasK q.1 (pK (orP ps qs))) := by
    unfold orP
    rw [List.filter_append, List.filter_map, List.filter_filter]
    congr 1
    refine List.filter_congr fun q _ => ?_
    show (!hasK q.1 (pK ps) && !hasK q.1 (pK qs)) = !hasK q.1 (pK (orP ps qs))
    rw [has_or, Bool.not_or]
  show ps.map (fun p => (p.1, (lookP p.1 (orP qs rs)).getD p.2)) ++ (orP qs rs).filter (fun q => !hasK q.1 (pK ps)) = (ps.map (fun p => (p.1, (lookP p.1 qs).getD p.2)) ++ qs.filter (fun q => !hasK q.1 (pK ps))).map (fun p => (p.1, (lookP p.1 rs).getD p.2)) ++ rs.filter (fun q => !hasK q.1 (pK (orP ps qs)))
  rw [e1, e2, List.map_append, List.append_assoc]
theorem or_nil {ps : List (Key × Val)} : orP ps [] = ps := by
  unfold orP
  have : ∀ p ∈ ps, (fun p : Key × Val => (p.1, (lookP p.1 []).getD p.2)) p = id p := fun _ _ => rfl
  rw [List.map_congr_left this, List.map_id]
  simp
theorem nil_or {ps : List (Key × Val)} : orP [] ps = ps := by
  unfold orP
  simp [hasK, pK]
theorem look_mem {k : Key} {v : Val} {qs : List (Key × Val)} (h : lookP k qs = some v) : (k, v) ∈ qs := by
  unfold lookP at h
  cases e : qs.find? fun q => decide (q.1 = k) with
  | none => rw [e] at h; cases h
  | some q =>
    rw [e] at h
    have h1 := List.mem_of_find?_eq_some e
    have h2 : q.1 = k := by have := List.find?_some e; simpa using this
    cases h
    rw [← h2]
    exact h1
theorem PsOk.filter {n : Nat} {f : Key × Val → Bool} {ps : List (Key × Val)} (h : PsOk n ps) : PsOk n (ps.filter f) :=
  ⟨h.nd.sublist (List.Sublist.map _ List.filter_sublist), Nat.le_trans (List.length_filter_le ..) h.len, fun p hp => h.ok p (List.mem_filter.mp hp).1⟩
theorem PsOk.or {n m : Nat} {ps qs : List (Key × Val)} (h : PsOk n ps) (g : PsOk m qs) : PsOk (n + m) (orP ps qs) := by
  have h1 := h.len
  have h2 := g.len
  refine ⟨?_, ?_, fun p hp => ?_⟩
  · rw [pK_or, List.nodup_append]
    refine ⟨h.nd, g.nd.sublist (List.Sublist.map _ List.filter_sublist), fun a ha b hb z => ?_⟩
    subst z
    have := hasK_iff.mpr hb
    rw [has_filter (f := fun j => !hasK j (pK ps)), hasK_iff.mpr ha] at this
    cases this
  · unfold orP
    rw [List.length_append, List.length_map]
    have := List.length_filter_le (fun q : Key × Val => !hasK q.1 (pK ps)) qs
    omega
  · unfold orP at hp
    rcases List.mem_append.mp hp with hp | hp
    · obtain ⟨q, hq, rfl⟩ := List.mem_map.mp hp
      have gq := h.ok q hq
      refine ⟨gq.1, ?_⟩
      show VOk ((lookP q.1 qs).getD q.2) ∧ vdepth ((lookP q.1 qs).getD q.2) ≤ 3 ∧ vparts ((lookP q.1 qs).getD q.2) ≤ 100
      cases e : lookP q.1 qs with
      | none => exact gq.2
      | some v => exact (g.ok _ (look_mem e)).2
    · exact g.ok p (List.mem_filter.mp hp).1
theorem keys_p {C : Addr} {ps : List (Key × Val)} : DK.list .keys (pK ps) (vTL C (pV ps)) = (pK ps).map kT := keys_list (by rw [vTL_len]; unfold pK pV; simp)
theorem items_p {C : Addr} {ps : List (Key × Val)} : DK.list .items (pK ps) (vTL C (pV ps)) = pVT C ps := by rw [items_list (by unfold pK pV; simp), vTP_p]
theorem hasK_in {k : Key} {ps : List (Key × Val)} : inV (kV k) ((pK ps).map kV) = hasK k (pK ps) := kV_in k _
/-! ### models as data -/
mutual
theorem mT_D : ∀ v : Val, VOk v → ∃ d, toD (mT v) = some d ∧ PyData.canLay0 d = true ∧ PyData.depth d ≤ 3 * vdepth v + 1
  | .non, _ => ⟨.none, rfl, rfl, by simp [PyData.depth]⟩
  | .bl b, _ => ⟨.bool b, rfl, rfl, by simp [PyData.depth]⟩
  | .int n, _ => ⟨.int n, rfl, rfl, by simp [PyData.depth]⟩
  | .str z, h => ⟨.str z, rfl, KB.pr_strOk h.1, by simp [PyData.depth]⟩
  | .lst vs, h => by
    obtain ⟨ds, e, h1, h2⟩ := mTL_D vs h
    refine ⟨.tuple [.str "list", .list ds], by simp only [mT, toD, toDs, e]; rfl, ?_, ?_⟩
    · show (PyData.strOk _ && (PyData.canLayAll0 ds && true)) = true
      rw [h1]; decide +kernel
    · show max (PyData.depth (.str _)) (max (PyData.depthAll ds + 1) 0) + 1 ≤ 3 * (1 + vdepthL vs) + 1
      have : PyData.depth (.str (Str.ofString "list")) ≤ 1 := by simp [PyData.depth]
      omega
  | .tup vs, h => by
    obtain ⟨ds, e, h1, h2⟩ := mTL_D vs h
    refine ⟨.tuple [.str "tuple", .list ds], by simp only [mT, toD, toDs, e]; rfl, ?_, ?_⟩
    · show (PyData.strOk _ && (PyData.canLayAll0 ds && true)) = true
      rw [h1]; decide +kernel
    · show max (PyData.depth (.str _)) (max (PyData.depthAll ds + 1) 0) + 1 ≤ 3 * (1 + vdepthL vs) + 1
      have : PyData.depth (.str (Str.ofString "tuple")) ≤ 1 := by simp [PyData.depth]
      omega
  | .tab ks vs, h => by
    obtain ⟨ds, e, h1, h2⟩ := mTP_D vs ks h.1 h.2.2.1
    refine ⟨.tuple [.str "table", .list ds], by simp only [mT, toD, toDs, e]; rfl, ?_, ?_⟩
    · show (PyData.strOk _ && (PyData.canLayAll0 ds && true)) = true
      rw [h1]; decide +kernel
    · show max (PyData.depth (.str _)) (max (PyData.depthAll ds + 1) 0) + 1 ≤ 3 * (1 + vdepthL vs) + 1
      have : PyData.depth (.str (Str.ofString "table")) ≤ 1 := by simp [PyData.depth]
      omega
theorem mTL_D : ∀ vs : List Val, VOkL vs → ∃ ds, toDs (mTL vs) = some ds ∧ PyData.canLayAll0 ds = true ∧ PyData.depthAll ds ≤ 3 * vdepthL vs + 1
  | [], _ => ⟨[], rfl, rfl, by simp [PyData.depthAll]⟩
  | v :: vs, h => by
    obtain ⟨d, e, h1, h2⟩ := mT_D v h.1
    obtain ⟨ds, e', h3, h4⟩ := mTL_D vs h.2
    refine ⟨d :: ds, by simp only [mTL, toDs, e, e'], ?_, ?_⟩
    · show (PyData.canLay0 d && PyData.canLayAll0 ds) = true
      rw [h1, h3]; rfl
    · show max (PyData.depth d) (PyData.depthAll ds) ≤ 3 * max (vdepth v) (vdepthL vs) + 1
      omega
theorem mTP_D : ∀ (vs : List Val) (ks : List Key), VOkL vs → (∀ k ∈ ks, KOk k) → ∃ ds, toDs (mTP ks vs) = some ds ∧ PyData.canLayAll0 ds = true ∧ PyData.depthAll ds ≤ 3 * vdepthL vs + 2
  | [], [], _, _ => ⟨[], rfl, rfl, by simp [PyData.depthAll]⟩
  | [], _ :: _, _, _ => ⟨[], rfl, rfl, by simp [PyData.depthAll]⟩
  | _ :: _, [], _, _ => ⟨[], rfl, rfl, by simp [PyData.depthAll]⟩
  | v :: vs, k :: ks, h, hk => by
    obtain ⟨d, e, h1, h2⟩ := mT_D v h.1
    obtain ⟨ds, e', h3, h4⟩ := mTP_D vs ks h.2 fun j hj => hk j (List.mem_cons_of_mem _ hj)
    have kk : ∃ c, toD (kT k) = some c ∧ PyData.canLay0 c = true ∧ PyData.depth c ≤ 1 := by
      cases k with
      | inl n => exact ⟨.int n, rfl, rfl, by simp [PyData.depth]⟩
      | inr z => exact ⟨.str z, rfl, KB.pr_strOk (hk (.inr z) (List.mem_cons_self ..)).1, by simp [PyData.depth]⟩
    obtain ⟨c, ec, c1, c2⟩ := kk
    refine ⟨.tuple [c, d] :: ds, by simp only [mTP, toDs, toD, e, e', ec]; rfl, ?_, ?_⟩
    · show ((PyData.canLay0 c && (PyData.canLay0 d && true)) && PyData.canLayAll0 ds) = true
      rw [h1, h3, c1]; rfl
    · show max (max (PyData.depth c) (max (PyData.depth d) 0) + 1) (PyData.depthAll ds) ≤ 3 * max (vdepth v) (vdepthL vs) + 2
      omega
end
/-- xs == [] -/
theorem nil_eq {xs : List Tr} {ds : List PyData} {n : Bool} {z : Tr} (h : toDs xs = some ds) (h1 : PyData.canLayAll0 ds = true) (h2 : PyData.depthAll ds ≤ 60) (l : ds.length = xs.length) (e : z = .bl (n ^^ xs.isEmpty)) : gEq n (.lst xs) (.lst []) z := by
  refine .inr ⟨rfl, .list ds, .list [], by unfold toD; rw [h]; rfl, rfl, ?_, by decide, ?_⟩
  · show (PyData.canLayAll0 ds && decide (PyData.depthAll ds + 1 ≤ 64)) = true
    rw [h1, decide_eq_true (by omega)]; rfl
  · have : PyData.eqv (.list ds) (.list []) = xs.isEmpty := by
      cases xs <;> cases ds <;> first | rfl | (simp at l)
    rw [this]; exact e
theorem toDs_len : ∀ {xs : List Tr} {ds : List PyData}, toDs xs = some ds → ds.length = xs.length
  | [], _, h => by cases h; rfl
  | x :: xs, ds, h => by
    unfold toDs at h
    cases e1 : toD x with
    | none => rw [e1] at h; cases h
    | some d =>
      cases e2 : toDs xs with
      | none => rw [e1, e2] at h; cases h
      | some es => rw [e1, e2] at h; cases h; exact congrArg (· + 1) (toDs_len e2)
theorem ps_nil {n : Nat} {ps : List (Key × Val)} {b : Bool} {z : Tr} (h : PsOk n ps) (e : z = .bl (b ^^ ps.isEmpty)) : gEq b (.lst (pT ps)) (.lst []) z := by
  obtain ⟨h1, h2, h3⟩ := pv_bounds h.ok
  obtain ⟨ds, g1, g2, g3⟩ := mTP_D (pV ps) (pK ps) h1 fun k hk => by obtain ⟨p, hp, rfl⟩ := List.mem_map.mp hk; exact (h.ok p hp).1
  rw [mTP_p] at g1
  refine nil_eq g1 g2 (by omega) (toDs_len g1) ?_
  rw [e]; unfold pT; cases ps <;> rfl
theorem atI_last {α : Type} {xs : List α} {x : α} : atI (xs ++ [x]) (-1) = some x := by
  have e : ixN (xs ++ [x]).length (-1) = some xs.length := by
    unfold ixN
    rw [if_neg (by decide), List.length_append]
    show (if _ then _ else _) = _
    rw [if_pos (by show -((xs.length + 1 : Nat) : Int) ≤ -1; omega)]
    exact congrArg some (by show (((xs.length + 1 : Nat) : Int) + -1).toNat = _; omega)
  unfold atI
  rw [e]
  show (xs ++ [x])[xs.length]? = some x
  rw [List.getElem?_append_right (Nat.le_refl _)]
  simp
theorem vw_vT {S : Sto} {C : Addr} {v : Val} : vw S (vT C v) = vT C v := by cases v <;> rfl
theorem vw_mT {S : Sto} {v : Val} : vw S (mT v) = mT v := by cases v <;> rfl
/-! ### two cells beside the source -/
def st3 (S : Sto) (a p q : Addr) (c x y : Tr) : Sto := put (put (put S a c) p x) q y
section
variable {S : Sto} {a p q : Addr} {c x y d : Tr}
theorem st3_a (pa : p ≠ a) (qa : q ≠ a) : st3 S a p q c x y a = some c := by unfold st3; rw [put_ne qa.symm, put_ne pa.symm]; exact put_same
theorem st3_p (qp : q ≠ p) : st3 S a p q c x y p = some x := by unfold st3; rw [put_ne qp.symm]; exact put_same
theorem st3_q : st3 S a p q c x y q = some y := put_same
theorem st3_pa (pa : p ≠ a) (qa : q ≠ a) : put (st3 S a p q c x y) a d = st3 S a p q d x y := by unfold st3; rw [put_comm qa, put_comm pa, put_put]
theorem st3_pp (qp : q ≠ p) : put (st3 S a p q c x y) p d = st3 S a p q c d y := by unfold st3; rw [put_comm qp, put_put]
theorem st3_pq : put (st3 S a p q c x y) q d = st3 S a p q c x d := put_put
theorem st3_sub (hp : put S a c p = none) (hq : put S a c q = none) : Sub (put S a c) (st3 S a p q c x y) := fun b d h => by
  have n1 : b ≠ p := fun z => by subst z; rw [hp] at h; cases h
  have n2 : b ≠ q := fun z => by subst z; rw [hq] at h; cases h
  unfold st3; rw [put_ne n2, put_ne n1]; exact h
end
/-- [p[0] for p in pairs] -/
theorem keys_comp {ok : Sto → Prop} {ρ : Rho} {Q : QV} {S : Sto} {ps : List (Key × Val)} {j : Nat} (hl : ps.length ≤ 10000) (l : j < ρ.length) (hok : ∀ S, ok S) (h : Q (.lst ((pK ps).map kT)) S) : uLcL ok (.nm j) uYes (uOp gIx (uVar j) (uC (.int 0))) ρ Q (pT ps) [] S := by
  refine lc_inv _ (fun i acc S' => acc = (pK (ps.take i)).map kT ∧ S' = S) ?_ ?_ ⟨rfl, rfl⟩
  · rintro i x acc S' N hx ⟨rfl, rfl⟩ hN
    obtain ⟨p, ep, rfl⟩ := pT_get hx
    have e2 : (ρ.set j (some (.tup [kT p.1, mT p.2])))[j]? = some (some (.tup [kT p.1, mT p.2])) := by rw [List.getElem?_set_self l]
    refine ⟨hok _, _, pat_nm, ?_⟩
    refine ⟨_, e2, kT p.1, ?_, ?_, hN _ _ ⟨?_, rfl⟩⟩
    · show gIx (.tup [kT p.1, mT p.2]) (.int 0) _
      rw [ix_t]; exact at_0
    · refine szn ?_
      have : (pK (ps.take i)).length ≤ ps.length := by unfold pK; rw [List.length_map, List.length_take]; omega
      rw [List.length_map]; omega
    · rw [take_snoc ep]; unfold pK; simp
  · rintro acc S' ⟨rfl, rfl⟩
    rw [pT_len, List.take_of_length_le (Nat.le_refl _)]
    exact ⟨hok _, h⟩
/-- leaves -/
def leafV : Val → Prop
  | .lst _ => False
  | .tup _ => False
  | .tab _ _ => False
  | _ => True
theorem leaf_nd {v : Val} (h : leafV v) : vdepth v = 0 ∧ vparts v = 1 := by cases v <;> first | exact ⟨rfl, rfl⟩ | exact h.elim
def IsLeaf (y : Tr) : Prop := ∃ v : Val, y = mT v ∧ leafV v ∧ VOk v
theorem IsTxt.leaf {y : Tr} (h : IsTxt 300 y) : IsLeaf y := let ⟨z, e, h, l⟩ := h; ⟨.str z, e, trivial, h, l⟩
theorem IsNum.leaf {y : Tr} (h : IsNum y) : IsLeaf y := let ⟨n, e, h⟩ := h; ⟨.int n, e, trivial, h⟩
theorem room_src {ns : List Int} {at_ rest seed room long : Int} : roomOf (srcT ns at_ rest seed room long) = room := rfl
theorem src_ok {ns : List Int} {at_ rest seed room long : Int} (h0 : 0 ≤ at_) (h1 : 0 ≤ rest) : SrcOk (srcT ns at_ rest seed room long) := ⟨ns, at_, rest, seed, room, long, rfl, h0, h1⟩
/-- what a source is as a tree -/
theorem drw_src {c d : Tr} (h : Drw c d) : ∃ (ns : List Int) (at_ rest seed long : Int), d = srcT ns at_ rest seed (roomOf c) long ∧ 0 ≤ at_ ∧ 0 ≤ rest := by
  obtain ⟨⟨ns, at_, rest, seed, room, long, rfl, h0, h1⟩, e⟩ := h
  exact ⟨ns, at_, rest, seed, long, by rw [← e]; rfl, h0, h1⟩
end KQ
namespace KQ
open PySem PySem.Spec PyProof.Rows L2 TL KB
/-! ### what the laws compare: atoms, (word, items), ("table", pairs) -/
inductive Md where
  | non
  | bl (b : Bool)
  | int (n : Int)
  | str (z : Str)
  | row (t : Str) (xs : List Md)
  | tab (ks : List Key) (xs : List Md)
mutual
def dT : Md → Tr
  | .non => .non
  | .bl b => .bl b
  | .int n => .int n
  | .str z => .str z
  | .row t xs => .tup [.str t, .lst (dTL xs)]
  | .tab ks xs => .tup [.str "table", .lst (dTP ks xs)]
def dTL : List Md → List Tr
  | [] => []
  | x :: xs => dT x :: dTL xs
def dTP : List Key → List Md → List Tr
  | k :: ks, x :: xs => .tup [kT k, dT x] :: dTP ks xs
  | _, _ => []
end
mutual
def dparts : Md → Nat
  | .row _ xs => 1 + dpartsL xs
  | .tab _ xs => 1 + dpartsL xs
  | _ => 1
def dpartsL : List Md → Nat
  | [] => 0
  | x :: xs => dparts x + dpartsL xs
end
mutual
def ddepth : Md → Nat
  | .row _ xs => 1 + ddepthL xs
  | .tab _ xs => 1 + ddepthL xs
  | _ => 0
def ddepthL : List Md → Nat
  | [] => 0
  | x :: xs => max (ddepth x) (ddepthL xs)
end
mutual
def DOk : Md → Prop
  | .row t xs => t ≠ "table" ∧ DOkL xs
  | .tab ks xs => ks.length = xs.length ∧ DOkL xs
  | _ => True
def DOkL : List Md → Prop
  | [] => True
  | x :: xs => DOk x ∧ DOkL xs
end
theorem dparts_pos : ∀ x : Md, 1 ≤ dparts x
  | .row _ xs => by unfold dparts; omega
  | .tab _ xs => by unfold dparts; omega
  | .non => Nat.le_refl _
  | .bl _ => Nat.le_refl _
  | .int _ => Nat.le_refl _
  | .str _ => Nat.le_refl _
theorem dTL_len : ∀ xs : List Md, (dTL xs).length = xs.length
  | [] => rfl
  | x :: xs => by unfold dTL; rw [List.length_cons, List.length_cons, dTL_len xs]
theorem dTP_len : ∀ (ks : List Key) (xs : List Md), ks.length = xs.length → (dTP ks xs).length = xs.length
  | [], [], _ => rfl
  | k :: ks, x :: xs, h => by unfold dTP; rw [List.length_cons, List.length_cons, dTP_len ks xs (by simpa using h)]
theorem dTL_at : ∀ {xs : List Md} {i : Nat} {x : Md}, xs[i]? = some x → (dTL xs)[i]? = some (dT x)
  | x :: xs, 0, _, h => by cases h; rfl
  | _ :: xs, i + 1, x, h => by unfold dTL; rw [List.getElem?_cons_succ] at h ⊢; exact dTL_at h
theorem dTP_at : ∀ {ks : List Key} {xs : List Md} {i : Nat} {k : Key} {x : Md}, ks[i]? = some k → xs[i]? = some x → (dTP ks xs)[i]? = some (.tup [kT k, dT x])
  | k :: ks, x :: xs, 0, _, _, h, g => by cases h; cases g; rfl
  | _ :: ks, _ :: xs, i + 1, k, x, h, g => by unfold dTP; rw [List.getElem?_cons_succ] at h g ⊢; exact dTP_at h g
theorem ddepth_get : ∀ {xs : List Md} {i : Nat} {x : Md}, xs[i]? = some x → ddepth x ≤ ddepthL xs
  | x :: xs, 0, _, h => by cases h; unfold ddepthL; omega
  | y :: xs, i + 1, x, h => by rw [List.getElem?_cons_succ] at h; have := ddepth_get h; unfold ddepthL; omega
theorem dparts_get : ∀ {xs : List Md} {i : Nat} {x : Md}, xs[i]? = some x → dparts x ≤ dpartsL xs
  | x :: xs, 0, _, h => by cases h; unfold dpartsL; omega
  | y :: xs, i + 1, x, h => by rw [List.getElem?_cons_succ] at h; have := dparts_get h; unfold dpartsL; omega
theorem dpartsL_ge : ∀ xs : List Md, xs.length ≤ dpartsL xs
  | [] => Nat.le_refl _
  | x :: xs => by have := dparts_pos x; have := dpartsL_ge xs; unfold dpartsL; rw [List.length_cons]; omega
theorem DOkL.get : ∀ {xs : List Md} {i : Nat} {x : Md}, DOkL xs → xs[i]? = some x → DOk x
  | x :: xs, 0, _, h, e => by cases e; exact h.1
  | y :: xs, i + 1, x, h, e => by rw [List.getElem?_cons_succ] at e; exact DOkL.get h.2 e
theorem take_eq_snoc {α : Type} {xs ys : List α} {i : Nat} {x y : α} (h : xs.take i = ys.take i) (hx : xs[i]? = some x) (hy : ys[i]? = some y) (e : x = y) : xs.take (i + 1) = ys.take (i + 1) := by
  rw [List.take_add_one, List.take_add_one, h, hx, hy, e]
theorem take_all_eq {α : Type} {xs ys : List α} (h : xs.take xs.length = ys.take xs.length) (l : xs.length = ys.length) : xs = ys := by
  rw [List.take_of_length_le (Nat.le_refl _), List.take_of_length_le (by omega)] at h; exact h
/-- leaves of these -/
def leafD : Md → Prop
  | .row _ _ => False
  | .tab _ _ => False
  | _ => True
def kD : Key → Md
  | .inl n => .int n
  | .inr z => .str z
theorem kD_T (k : Key) : dT (kD k) = kT k := by cases k <;> rfl
theorem kD_leaf (k : Key) : leafD (kD k) := by cases k <;> trivial
theorem kD_inj {k j : Key} : kD k = kD j ↔ k = j := by
  cases k <;> cases j <;> simp [kD]
/-! ### values as such things -/
mutual
def vD : Val → Md
  | .non => .non
  | .bl b => .bl b
  | .int n => .int n
  | .str z => .str z
  | .lst vs => .row "list" (vDL vs)
  | .tup vs => .row "tuple" (vDL vs)
  | .tab ks vs => .tab ks (vDL vs)
def vDL : List Val → List Md
  | [] => []
  | v :: vs => vD v :: vDL vs
end
theorem vDL_len : ∀ vs : List Val, (vDL vs).length = vs.length
  | [] => rfl
  | v :: vs => by unfold vDL; rw [List.length_cons, List.length_cons, vDL_len vs]
mutual
theorem vD_T : ∀ v : Val, dT (vD v) = mT v
  | .non => rfl
  | .bl _ => rfl
  | .int _ => rfl
  | .str _ => rfl
  | .lst vs => by unfold vD dT mT; rw [vDL_T vs]
  | .tup vs => by unfold vD dT mT; rw [vDL_T vs]
  | .tab ks vs => by unfold vD dT mT; rw [vDP_T vs ks]
theorem vDL_T : ∀ vs : List Val, dTL (vDL vs) = mTL vs
  | [] => rfl
  | v :: vs => by unfold vDL dTL mTL; rw [vD_T v, vDL_T vs]
theorem vDP_T : ∀ (vs : List Val) (ks : List Key), dTP ks (vDL vs) = mTP ks vs
  | [], [] => rfl
  | [], _ :: _ => rfl
  | _ :: _, [] => rfl
  | v :: vs, k :: ks => by unfold vDL dTP mTP; rw [vD_T v, vDP_T vs ks]
end
mutual
theorem vD_parts : ∀ v : Val, dparts (vD v) = vparts v
  | .non => rfl
  | .bl _ => rfl
  | .int _ => rfl
  | .str _ => rfl
  | .lst vs => by unfold vD dparts vparts; rw [vDL_parts vs]
  | .tup vs => by unfold vD dparts vparts; rw [vDL_parts vs]
  | .tab ks vs => by unfold vD dparts vparts; rw [vDL_parts vs]
theorem vDL_parts : ∀ vs : List Val, dpartsL (vDL vs) = vpartsL vs
  | [] => rfl
  | v :: vs => by unfold vDL dpartsL vpartsL; rw [vD_parts v, vDL_parts vs]
end
mutual
theorem vD_depth : ∀ v : Val, ddepth (vD v) = vdepth v
  | .non => rfl
  | .bl _ => rfl
  | .int _ => rfl
  | .str _ => rfl
  | .lst vs => by unfold vD ddepth vdepth; rw [vDL_depth vs]
  | .tup vs => by unfold vD ddepth vdepth; rw [vDL_depth vs]
  | .tab ks vs => by unfold vD ddepth vdepth; rw [vDL_depth vs]
theorem vDL_depth : ∀ vs : List Val, ddepthL (vDL vs) = vdepthL vs
  | [] => rfl
  | v :: vs => by unfold vDL ddepthL vdepthL; rw [vD_depth v, vDL_depth vs]
end
mutual
theorem vD_ok : ∀ v : Val, VOk v → DOk (vD v)
  | .non, _ => trivial
  | .bl _, _ => trivial
  | .int _, _ => trivial
  | .str _, _ => trivial
  | .lst vs, h => ⟨by decide, vDL_ok vs h⟩
  | .tup vs, h => ⟨by decide, vDL_ok vs h⟩
  | .tab ks vs, h => ⟨by rw [vDL_len]; exact h.2.1, vDL_ok vs h.1⟩
theorem vDL_ok : ∀ vs : List Val, VOkL vs → DOkL (vDL vs)
  | [], _ => trivial
  | v :: vs, h => ⟨vD_ok v h.1, vDL_ok vs h.2⟩
end
mutual
theorem vD_inj : ∀ {v w : Val}, vD v = vD w → v = w
  | .non, w, h => by cases w <;> simp [vD] at h ⊢
  | .bl _, w, h => by cases w <;> simp [vD] at h ⊢; exact h
  | .int _, w, h => by cases w <;> simp [vD] at h ⊢; exact h
  | .str _, w, h => by cases w <;> simp [vD] at h ⊢; exact h
  | .lst vs, w, h => by
    cases w with
    | lst ws => simp only [vD, Md.row.injEq] at h; rw [vDL_inj h.2]
    | tup ws => simp only [vD, Md.row.injEq] at h; exact absurd h.1 (by decide)
    | _ => simp [vD] at h
  | .tup vs, w, h => by
    cases w with
    | tup ws => simp only [vD, Md.row.injEq] at h; rw [vDL_inj h.2]
    | lst ws => simp only [vD, Md.row.injEq] at h; exact absurd h.1 (by decide)
    | _ => simp [vD] at h
  | .tab ks vs, w, h => by
    cases w with
    | tab js ws => simp only [vD, Md.tab.injEq] at h; rw [h.1, vDL_inj h.2]
    | _ => simp [vD] at h
theorem vDL_inj : ∀ {vs ws : List Val}, vDL vs = vDL ws → vs = ws
  | [], [], _ => rfl
  | [], _ :: _, h => by simp [vDL] at h
  | _ :: _, [], h => by simp [vDL] at h
  | v :: vs, w :: ws, h => by
    simp only [vDL, List.cons.injEq] at h
    rw [vD_inj h.1, vDL_inj h.2]
end
end KQ
namespace KQ
open PySem PySem.Spec PyProof.Rows L2 TL KB
theorem vTL_at {C : Addr} : ∀ {vs : List Val} {i : Nat} {v : Val}, vs[i]? = some v → (vTL C vs)[i]? = some (vT C v)
  | x :: xs, 0, _, h => by cases h; rfl
  | _ :: xs, i + 1, x, h => by unfold vTL; rw [List.getElem?_cons_succ] at h ⊢; exact vTL_at h
/-! ### sameness, in order (o) or not -/
def vget (k : Key) : List Key → List Val → Option Val
  | j :: js, v :: vs => if j = k then some v else vget k js vs
  | _, _ => none
mutual
def sameV (o : Bool) : Val → Val → Bool
  | .non, w => match w with | .non => true | _ => false
  | .bl b, w => match w with | .bl c => decide (b = c) | _ => false
  | .int n, w => match w with | .int m => decide (n = m) | _ => false
  | .str z, w => match w with | .str y => decide (z = y) | _ => false
  | .lst vs, w => match w with | .lst ws => decide (vs.length = ws.length) && sameL o vs ws | _ => false
  | .tup vs, w => match w with | .tup ws => decide (vs.length = ws.length) && sameL o vs ws | _ => false
  | .tab ks vs, w => match w with | .tab js ws => decide (ks.length = js.length) && (!o || decide (ks = js)) && sameT o ks vs js ws | _ => false
def sameL (o : Bool) : List Val → List Val → Bool
  | [], _ => true
  | v :: vs, ws => match ws with | w :: ws => sameV o v w && sameL o vs ws | [] => true
def sameT (o : Bool) : List Key → List Val → List Key → List Val → Bool
  | _, [], _, _ => true
  | ks, v :: vs, js, ws => match ks with | k :: ks => (match vget k js ws with | some w => sameV o v w | none => false) && sameT o ks vs js ws | [] => true
end
theorem sameL_iff {o : Bool} : ∀ {vs ws : List Val}, vs.length = ws.length → (sameL o vs ws = true ↔ ∀ (i : Nat) v w, vs[i]? = some v → ws[i]? = some w → sameV o v w = true)
  | [], [], _ => by simp [sameL]
  | v :: vs, w :: ws, h => by
    have ih := sameL_iff (o := o) (vs := vs) (ws := ws) (by simpa using h)
    simp only [sameL, Bool.and_eq_true, ih]
    constructor
    · rintro ⟨h1, h2⟩ i a b ha hb
      cases i with
      | zero => cases ha; cases hb; exact h1
      | succ i => exact h2 i a b (by simpa using ha) (by simpa using hb)
    · intro h1
      exact ⟨h1 0 v w rfl rfl, fun i a b ha hb => h1 (i + 1) a b (by simpa using ha) (by simpa using hb)⟩
theorem sameT_iff {o : Bool} {js : List Key} {ws : List Val} : ∀ {ks : List Key} {vs : List Val}, ks.length = vs.length → (sameT o ks vs js ws = true ↔ ∀ (i : Nat) k v, ks[i]? = some k → vs[i]? = some v → ∃ w, vget k js ws = some w ∧ sameV o v w = true)
  | [], [], _ => by simp [sameT]
  | k :: ks, v :: vs, h => by
    have ih := sameT_iff (o := o) (js := js) (ws := ws) (ks := ks) (vs := vs) (by simpa using h)
    simp only [sameT, Bool.and_eq_true, ih]
    constructor
    · rintro ⟨h1, h2⟩ i a b ha hb
      cases i with
      | zero =>
        cases ha; cases hb
        cases e : vget k js ws with
        | none => rw [e] at h1; cases h1
        | some w => rw [e] at h1; exact ⟨w, rfl, h1⟩
      | succ i => exact h2 i a b (by simpa using ha) (by simpa using hb)
    · intro h1
      obtain ⟨w, e, s⟩ := h1 0 k v rfl rfl
      exact ⟨by rw [e]; exact s, fun i a b ha hb => h1 (i + 1) a b (by simpa using ha) (by simpa using hb)⟩
theorem vget_mem {k : Key} : ∀ {ks : List Key} {vs : List Val} {v : Val}, vget k ks vs = some v → ∃ i : Nat, ks[i]? = some k ∧ vs[i]? = some v
  | [], _, _, h => by simp [vget] at h
  | _ :: _, [], _, h => by simp [vget] at h
  | j :: js, w :: ws, v, h => by
    unfold vget at h
    split at h
    · rename_i e; cases h; exact ⟨0, by rw [e]; rfl, rfl⟩
    · obtain ⟨i, h1, h2⟩ := vget_mem h
      exact ⟨i + 1, by simpa using h1, by simpa using h2⟩
theorem vget_at {k : Key} : ∀ {ks : List Key} {vs : List Val} {i : Nat} {v : Val}, ks.Nodup → ks[i]? = some k → vs[i]? = some v → vget k ks vs = some v
  | [], _, i, _, _, h, _ => by simp at h
  | _ :: _, [], i, _, _, _, h => by simp at h
  | j :: js, w :: ws, 0, v, _, h, g => by cases h; cases g; simp [vget]
  | j :: js, w :: ws, i + 1, v, nd, h, g => by
    have nd' := List.nodup_cons.mp nd
    have h : js[i]? = some k := by simpa using h
    have hne : j ≠ k := fun z => nd'.1 (z ▸ List.mem_of_getElem? h)
    unfold vget
    rw [if_neg hne]
    exact vget_at nd'.2 h (by simpa using g)
theorem vget_some {k : Key} : ∀ {ks : List Key} {vs : List Val}, ks.length = vs.length → (vget k ks vs).isSome = hasK k ks
  | [], [], _ => rfl
  | j :: js, v :: vs, h => by
    have ih := vget_some (k := k) (ks := js) (vs := vs) (by simpa using h)
    unfold vget hasK
    rw [List.any_cons]
    split
    · rename_i e; simp [e]
    · rename_i e; rw [ih]; simp [e, hasK]
theorem kget_v {C : Addr} {k : Key} : ∀ {ks : List Key} {vs : List Val}, kget k ks (vTL C vs) = (vget k ks vs).map (vT C)
  | [], vs => by cases vs <;> rfl
  | j :: js, [] => rfl
  | j :: js, v :: vs => by
    unfold vTL kget vget
    by_cases e : j = k
    · rw [if_pos e.symm, if_pos e]; rfl
    · rw [if_neg (fun z => e z.symm), if_neg e]; exact kget_v
theorem drop_len {k : Key} : ∀ {js : List Key}, k ∈ js → (js.filter fun x => !decide (x = k)).length < js.length
  | [], h => nomatch h
  | j :: js, h => by
    rw [List.filter_cons]
    by_cases e : j = k
    · simp only [e, decide_true, Bool.not_true, Bool.false_eq_true, if_false, List.length_cons]
      exact Nat.lt_succ_of_le (List.length_filter_le ..)
    · have := drop_len (js := js) ((List.mem_cons.mp h).resolve_left fun z => e z.symm)
      simp only [e, decide_false, Bool.not_false, if_true, List.length_cons]
      omega
/-- two lists of different keys, as many: one holds the other -/
theorem keys_back : ∀ {ks js : List Key}, ks.Nodup → (∀ k ∈ ks, k ∈ js) → js.length ≤ ks.length → ∀ j ∈ js, j ∈ ks
  | [], js, _, _, l, j, hj => by
    have : js = [] := List.length_eq_zero_iff.mp (Nat.le_zero.mp l)
    rw [this] at hj; exact hj
  | k :: ks, js, nd, h, l, j, hj => by
    have nd' := List.nodup_cons.mp nd
    have hk : k ∈ js := h k (List.mem_cons_self ..)
    by_cases e : j = k
    · rw [e]; exact List.mem_cons_self ..
    · refine List.mem_cons_of_mem _ (keys_back (js := js.filter fun x => !decide (x = k)) nd'.2 (fun x hx => ?_) ?_ j (List.mem_filter.mpr ⟨hj, by simp [e]⟩))
      · have hne : x ≠ k := fun z => nd'.1 (z ▸ hx)
        exact List.mem_filter.mpr ⟨h x (List.mem_cons_of_mem _ hx), by simp [hne]⟩
      · have := drop_len hk; rw [List.length_cons] at l; omega
theorem match_back {R : Val → Val → Prop} {ks js : List Key} {vs ws : List Val} (nk : ks.Nodup) (nj : js.Nodup) (lk : ks.length = vs.length) (lj : js.length = ws.length) (l : ks.length = js.length)
    (h : ∀ (i : Nat) k v, ks[i]? = some k → vs[i]? = some v → ∃ w, vget k js ws = some w ∧ R v w) : ∀ (i : Nat) j w, js[i]? = some j → ws[i]? = some w → ∃ v, vget j ks vs = some v ∧ R v w := by
  intro i j w hj hw
  have sub : ∀ k ∈ ks, k ∈ js := fun k hk => by
    obtain ⟨i, hi, e⟩ := List.getElem_of_mem hk
    obtain ⟨w, e1, _⟩ := h i k vs[i] (by rw [List.getElem?_eq_getElem hi, e]) (List.getElem?_eq_getElem (by omega))
    obtain ⟨m, e2, _⟩ := vget_mem e1
    exact List.mem_of_getElem? e2
  have hjk := keys_back nk sub (by omega) j (List.mem_of_getElem? hj)
  obtain ⟨m, hm, e⟩ := List.getElem_of_mem hjk
  have e1 : ks[m]? = some j := by rw [List.getElem?_eq_getElem hm, e]
  have e2 : vs[m]? = some vs[m] := List.getElem?_eq_getElem (by omega)
  obtain ⟨w', e3, r⟩ := h m j vs[m] e1 e2
  rw [vget_at nj hj hw] at e3
  cases e3
  exact ⟨vs[m], vget_at nk e1 e2, r⟩
mutual
theorem sameV_ord : ∀ (v w : Val), VOk v → VOk w → (sameV true v w = true ↔ v = w)
  | .non, w, _, _ => by cases w <;> simp [sameV]
  | .bl _, w, _, _ => by cases w <;> simp [sameV]
  | .int _, w, _, _ => by cases w <;> simp [sameV]
  | .str _, w, _, _ => by cases w <;> simp [sameV]
  | .lst vs, w, hv, hw => by
    cases w with
    | lst ws =>
      simp only [sameV, Bool.and_eq_true, decide_eq_true_eq, Val.lst.injEq]
      exact rows_ord vs hv ws hw
    | _ => simp [sameV]
  | .tup vs, w, hv, hw => by
    cases w with
    | tup ws =>
      simp only [sameV, Bool.and_eq_true, decide_eq_true_eq, Val.tup.injEq]
      exact rows_ord vs hv ws hw
    | _ => simp [sameV]
  | .tab ks vs, w, hv, hw => by
    cases w with
    | tab js ws =>
      obtain ⟨ov, lk, _, nk⟩ := hv
      obtain ⟨ow, lj, _, nj⟩ := hw
      simp only [sameV, Bool.and_eq_true, decide_eq_true_eq, Val.tab.injEq, Bool.not_true, Bool.false_or]
      constructor
      · rintro ⟨⟨l, rfl⟩, h⟩
        refine ⟨rfl, List.ext_getElem? fun i => ?_⟩
        rw [sameT_iff lk] at h
        cases e : vs[i]? with
        | none =>
          rw [List.getElem?_eq_none_iff] at e
          rw [List.getElem?_eq_none (by omega)]
        | some v =>
          have hi := (List.getElem?_eq_some_iff.mp e).1
          obtain ⟨w, e1, s⟩ := h i ks[i] v (List.getElem?_eq_getElem (by omega)) e
          have e2 : ws[i]? = some ws[i] := List.getElem?_eq_getElem (by omega)
          rw [vget_at nk (List.getElem?_eq_getElem (by omega)) e2] at e1
          cases e1
          rw [e2, ((ord_all vs ov v (List.mem_of_getElem? e) ws[i] (ow.get e2)).mp s)]
      · rintro ⟨rfl, rfl⟩
        refine ⟨⟨rfl, rfl⟩, (sameT_iff lk).mpr fun i k v h1 h2 => ⟨v, vget_at nk h1 h2, (ord_all vs ov v (List.mem_of_getElem? h2) v (ov.get h2)).mpr rfl⟩⟩
    | _ => simp [sameV]
theorem rows_ord : ∀ (vs : List Val), VOkL vs → ∀ ws, VOkL ws → ((vs.length = ws.length ∧ sameL true vs ws = true) ↔ vs = ws)
  | [], _, ws, _ => by cases ws <;> simp [sameL]
  | v :: vs, hv, ws, hw => by
    cases ws with
    | nil => simp
    | cons w ws =>
      have h1 := sameV_ord v w hv.1 hw.1
      have h2 := rows_ord vs hv.2 ws hw.2
      simp only [sameL, Bool.and_eq_true, List.length_cons, Nat.add_right_cancel_iff, List.cons.injEq, ← h2, h1]
      constructor
      · rintro ⟨a, b, c⟩; exact ⟨b, a, c⟩
      · rintro ⟨b, a, c⟩; exact ⟨a, b, c⟩
theorem ord_all : ∀ (vs : List Val), VOkL vs → ∀ v ∈ vs, ∀ w, VOk w → (sameV true v w = true ↔ v = w)
  | [], _, _, h, _, _ => nomatch h
  | x :: xs, hv, v, hm, w, hw => by
    rcases List.mem_cons.mp hm with e | hm
    · rw [e]; exact sameV_ord x w hv.1 hw
    · exact ord_all xs hv.2 v hm w hw
end
theorem same_refl {v : Val} (h : VOk v) : sameV true v v = true := (sameV_ord v v h h).mpr rfl
theorem bool_iff {a b : Bool} (h : a = true ↔ b = true) : a = b := by cases a <;> cases b <;> simp_all
mutual
theorem sameV_sym : ∀ (v w : Val), VOk v → VOk w → sameV false w v = sameV false v w
  | .non, w, _, _ => by cases w <;> simp [sameV]
  | .bl _, w, _, _ => by cases w <;> simp [sameV, eq_comm]
  | .int _, w, _, _ => by cases w <;> simp [sameV, eq_comm]
  | .str _, w, _, _ => by cases w <;> simp [sameV, eq_comm]
  | .lst vs, w, hv, hw => by
    cases w with
    | lst ws => simp only [sameV]; exact rows_sym vs hv ws hw
    | _ => simp [sameV]
  | .tup vs, w, hv, hw => by
    cases w with
    | tup ws => simp only [sameV]; exact rows_sym vs hv ws hw
    | _ => simp [sameV]
  | .tab ks vs, w, hv, hw => by
    cases w with
    | tab js ws =>
      obtain ⟨ov, lk, _, nk⟩ := hv
      obtain ⟨ow, lj, _, nj⟩ := hw
      refine bool_iff ?_
      simp only [sameV, Bool.and_eq_true, decide_eq_true_eq, Bool.not_false, Bool.true_or, and_true, sameT_iff lk, sameT_iff lj]
      have key : ∀ v w, v ∈ vs → VOk w → sameV false w v = sameV false v w := fun v w hm hw => sym_all vs ov v hm w hw
      constructor
      · rintro ⟨l, h⟩
        refine ⟨l.symm, fun i k v h1 h2 => ?_⟩
        obtain ⟨w, e, s⟩ := match_back (R := fun w v => sameV false w v = true) nj nk lj lk l h i k v h1 h2
        obtain ⟨m, _, e2⟩ := vget_mem e
        exact ⟨w, e, by rw [← key v w (List.mem_of_getElem? h2) (ow.get e2)]; exact s⟩
      · rintro ⟨l, h⟩
        refine ⟨l.symm, fun i j w h1 h2 => ?_⟩
        obtain ⟨v, e, s⟩ := match_back (R := fun v w => sameV false v w = true) nk nj lk lj l h i j w h1 h2
        obtain ⟨m, _, e2⟩ := vget_mem e
        exact ⟨v, e, by rw [key v w (List.mem_of_getElem? e2) (ow.get h2)]; exact s⟩
    | _ => simp [sameV]
theorem rows_sym : ∀ (vs : List Val), VOkL vs → ∀ ws, VOkL ws → (decide (ws.length = vs.length) && sameL false ws vs) = (decide (vs.length = ws.length) && sameL false vs ws)
  | [], _, ws, _ => by cases ws <;> simp [sameL]
  | v :: vs, hv, ws, hw => by
    cases ws with
    | nil => simp
    | cons w ws =>
      have h1 := sameV_sym v w hv.1 hw.1
      have h2 := rows_sym vs hv.2 ws hw.2
      simp only [sameL, List.length_cons, Nat.add_right_cancel_iff, h1]
      cases sameV false v w
      · simp
      · simpa using h2
theorem sym_all : ∀ (vs : List Val), VOkL vs → ∀ v ∈ vs, ∀ w, VOk w → sameV false w v = sameV false v w
  | [], _, _, h, _, _ => nomatch h
  | x :: xs, hv, v, hm, w, hw => by
    rcases List.mem_cons.mp hm with e | hm
    · rw [e]; exact sameV_sym x w hv.1 hw
    · exact sym_all xs hv.2 v hm w hw
end
mutual
theorem reflF : ∀ v : Val, VOk v → sameV false v v = true
  | .non, _ => rfl
  | .bl _, _ => by simp [sameV]
  | .int _, _ => by simp [sameV]
  | .str _, _ => by simp [sameV]
  | .lst vs, h => by simp only [sameV, decide_true, Bool.true_and]; exact reflFL vs h
  | .tup vs, h => by simp only [sameV, decide_true, Bool.true_and]; exact reflFL vs h
  | .tab ks vs, h => by
    obtain ⟨ov, lk, _, nk⟩ := h
    simp only [sameV, decide_true, Bool.true_and, Bool.not_false, Bool.true_or]
    exact (sameT_iff lk).mpr fun i k v h1 h2 => ⟨v, vget_at nk h1 h2, reflFA vs ov v (List.mem_of_getElem? h2)⟩
theorem reflFL : ∀ vs : List Val, VOkL vs → sameL false vs vs = true
  | [], _ => rfl
  | v :: vs, h => by simp only [sameL, Bool.and_eq_true]; exact ⟨reflF v h.1, reflFL vs h.2⟩
theorem reflFA : ∀ vs : List Val, VOkL vs → ∀ v ∈ vs, sameV false v v = true
  | [], _, _, h => nomatch h
  | x :: xs, hv, v, hm => by
    rcases List.mem_cons.mp hm with e | hm
    · rw [e]; exact reflF x hv.1
    · exact reflFA xs hv.2 v hm
end
/-- the word for a value's kind -/
def kindS : Val → Str
  | .non => "null"
  | .bl true => "true"
  | .bl false => "false"
  | .int _ => "integer"
  | .str _ => "text"
  | .lst _ => "list"
  | .tup _ => "tuple"
  | .tab _ _ => "table"
/-! ### lists of values changed -/
theorem mTL_map : ∀ vs : List Val, mTL vs = vs.map mT
  | [] => rfl
  | v :: vs => by unfold mTL; rw [mTL_map vs]; rfl
theorem mTL_at {vs : List Val} {i : Nat} {v : Val} (h : vs[i]? = some v) : (mTL vs)[i]? = some (mT v) := by rw [mTL_map, List.getElem?_map, h]; rfl
theorem mTP_at : ∀ {ks : List Key} {vs : List Val} {i : Nat} {k : Key} {v : Val}, ks[i]? = some k → vs[i]? = some v → (mTP ks vs)[i]? = some (.tup [kT k, mT v])
  | k :: ks, v :: vs, 0, _, _, h, g => by cases h; cases g; rfl
  | _ :: ks, _ :: vs, i + 1, k, v, h, g => by unfold mTP; rw [List.getElem?_cons_succ] at h g ⊢; exact mTP_at h g
theorem mTL_set (vs : List Val) (i : Nat) (w : Val) : (mTL vs).set i (mT w) = mTL (vs.set i w) := by rw [mTL_map, mTL_map, List.map_set]
theorem mTP_set {ks : List Key} {vs : List Val} {i : Nat} {k : Key} {w : Val} (h : ks[i]? = some k) (l : ks.length = vs.length) : (mTP ks vs).set i (.tup [kT k, mT w]) = mTP ks (vs.set i w) := by
  rw [mTP_zip, mTP_zip]
  refine List.ext_getElem? fun j => ?_
  have hi := (List.getElem?_eq_some_iff.mp h).1
  rw [List.getElem?_set, List.getElem?_map, List.getElem?_map]
  by_cases e : i = j
  · subst e
    rw [if_pos rfl, if_pos (by simp; omega)]
    have e2 : (ks.zip (vs.set i w))[i]? = some (k, w) := List.getElem?_zip_eq_some.mpr ⟨h, by rw [List.getElem?_set_self (by omega)]⟩
    rw [e2]; rfl
  · rw [if_neg e]
    have : (ks.zip (vs.set i w))[j]? = (ks.zip vs)[j]? := by
      (simp only [List.zip, List.getElem?_zipWith]; rw [List.getElem?_set_ne e])
    rw [this]
theorem mTP_key {ks : List Key} {vs : List Val} {i : Nat} {k' : Key} {v : Val} (h : vs[i]? = some v) (l : ks.length = vs.length) : (mTP ks vs).set i (.tup [kT k', mT v]) = mTP (ks.set i k') vs := by
  rw [mTP_zip, mTP_zip]
  refine List.ext_getElem? fun j => ?_
  have hi := (List.getElem?_eq_some_iff.mp h).1
  rw [List.getElem?_set, List.getElem?_map, List.getElem?_map]
  by_cases e : i = j
  · subst e
    rw [if_pos rfl, if_pos (by simp; omega)]
    have e2 : ((ks.set i k').zip vs)[i]? = some (k', v) := List.getElem?_zip_eq_some.mpr ⟨by rw [List.getElem?_set_self (by omega)], h⟩
    rw [e2]; rfl
  · rw [if_neg e]
    have : ((ks.set i k').zip vs)[j]? = (ks.zip vs)[j]? := by
      (simp only [List.zip, List.getElem?_zipWith]; rw [List.getElem?_set_ne e])
    rw [this]
theorem okL_mem : ∀ {vs : List Val}, VOkL vs ↔ ∀ v ∈ vs, VOk v
  | [] => ⟨fun _ _ h => (nomatch h), fun _ => trivial⟩
  | v :: vs => by
    rw [List.forall_mem_cons, ← okL_mem (vs := vs)]
    exact Iff.rfl
theorem vdL_mem : ∀ {vs : List Val} {n : Nat}, (∀ v ∈ vs, vdepth v ≤ n) → vdepthL vs ≤ n
  | [], _, _ => Nat.zero_le _
  | v :: vs, n, h => by
    have h1 := h v (List.mem_cons_self ..)
    have h2 := vdL_mem (vs := vs) fun w hw => h w (List.mem_cons_of_mem _ hw)
    show max (vdepth v) (vdepthL vs) ≤ n
    omega
theorem vd_of_mem {vs : List Val} {v : Val} (h : v ∈ vs) : vdepth v ≤ vdepthL vs := by
  obtain ⟨i, hi, e⟩ := List.getElem_of_mem h
  exact vdepth_get (i := i) (by rw [List.getElem?_eq_getElem hi, e])
theorem vpL_perm {vs ws : List Val} (h : vs.Perm ws) : vpartsL vs = vpartsL ws := by
  induction h with
  | nil => rfl
  | cons x _ ih => show vparts x + _ = vparts x + _; rw [ih]
  | swap x y l => show vparts y + (vparts x + _) = vparts x + (vparts y + _); omega
  | trans _ _ h1 h2 => rw [h1, h2]
theorem vpL_cut (vs : List Val) (n : Nat) : vpartsL (vs.take n) ≤ vpartsL vs := by
  have := vpL_app (vs.take n) (vs.drop n)
  rw [List.take_append_drop] at this
  omega
theorem vpL_set : ∀ {vs : List Val} {i : Nat} {v w : Val}, vs[i]? = some v → vparts w ≤ vparts v → vpartsL (vs.set i w) ≤ vpartsL vs
  | x :: xs, 0, v, w, h, l => by cases h; show vparts w + _ ≤ vparts x + _; omega
  | x :: xs, i + 1, v, w, h, l => by
    have := vpL_set (vs := xs) (i := i) (by simpa using h) l
    show vparts x + vpartsL (xs.set i w) ≤ vparts x + vpartsL xs
    omega
theorem cut_last (xs : List Tr) : cutT xs none (some (-1)) = xs.take (xs.length - 1) := by
  unfold cutT
  rw [HT.sIx_none, List.drop_zero]
  have : HT.sIx xs.length xs.length (some (-1)) = xs.length - 1 := by
    unfold HT.sIx
    simp only
    rw [if_pos (by decide)]; omega
  rw [this]; rfl
theorem leaf_same {o : Bool} {v w : Val} (h : leafV v) : sameV o v w = true ↔ v = w := by
  cases v <;> first | exact h.elim | (cases w <;> simp [sameV])
theorem leaf_vD {v : Val} (h : leafV v) : leafD (vD v) := by cases v <;> first | exact h.elim | trivial
theorem vD_eq {v w : Val} : vD v = vD w ↔ v = w := ⟨vD_inj, fun h => by rw [h]⟩
theorem as_pairs {ks : List Key} {vs : List Val} (l : ks.length = vs.length) : ∃ ps : List (Key × Val), ks = pK ps ∧ vs = pV ps :=
  ⟨ks.zip vs, by unfold pK; rw [List.map_fst_zip (by omega)], by unfold pV; rw [List.map_snd_zip (by omega)]⟩
theorem mT_tab {ps : List (Key × Val)} : mT (tabV ps) = .tup [.str "table", .lst (pT ps)] := by show Tr.tup [.str "table", .lst (mTP (pK ps) (pV ps))] = _; rw [mTP_p]
theorem tab_sub {ps qs : List (Key × Val)} (h : VOk (tabV ps)) (s : ∀ q ∈ qs, q ∈ ps) (nd : (pK qs).Nodup) : VOk (tabV qs) ∧ vdepth (tabV qs) ≤ vdepth (tabV ps) := by
  obtain ⟨ov, lk, okk, nk⟩ := h
  have sv : ∀ v ∈ pV qs, v ∈ pV ps := fun v hv => by
    obtain ⟨q, hq, rfl⟩ := List.mem_map.mp hv
    exact List.mem_map.mpr ⟨q, s q hq, rfl⟩
  have sk : ∀ k ∈ pK qs, k ∈ pK ps := fun v hv => by
    obtain ⟨q, hq, rfl⟩ := List.mem_map.mp hv
    exact List.mem_map.mpr ⟨q, s q hq, rfl⟩
  refine ⟨⟨okL_mem.mpr fun v hv => okL_mem.mp ov v (sv v hv), by unfold pK pV; simp, fun k hk => okk k (sk k hk), nd⟩, ?_⟩
  show 1 + vdepthL (pV qs) ≤ 1 + vdepthL (pV ps)
  have := vdL_mem (vs := pV qs) (n := vdepthL (pV ps)) fun v hv => vd_of_mem (sv v hv)
  omega
theorem rows_sub {vs ws : List Val} (h : VOkL vs) (s : ∀ w ∈ ws, w ∈ vs) : VOkL ws ∧ vdepthL ws ≤ vdepthL vs :=
  ⟨okL_mem.mpr fun v hv => okL_mem.mp h v (s v hv), vdL_mem fun v hv => vd_of_mem (s v hv)⟩
theorem vals_comp {ok : Sto → Prop} {ρ : Rho} {Q : QV} {S : Sto} {ps : List (Key × Val)} {j : Nat} (hl : ps.length ≤ 50000) (l : j < ρ.length) (hok : ok S) (h : Q (.lst (mTL (pV ps))) S) : uLcL ok (.nm j) uYes (uOp gIx (uVar j) (uC (.int 1))) ρ Q (pT ps) [] S := by
  refine lc_inv _ (fun i acc S' => acc = mTL (pV (ps.take i)) ∧ S' = S) ?_ ?_ ⟨rfl, rfl⟩
  · rintro i x acc S' N hx ⟨rfl, rfl⟩ hN
    obtain ⟨p, ep, rfl⟩ := pT_get hx
    have hi := (List.getElem?_eq_some_iff.mp ep).1
    have ln := mTL_len (pV (ps.take i))
    have ln2 : (pV (ps.take i)).length ≤ ps.length := by unfold pV; rw [List.length_map, List.length_take]; omega
    have e2 : (ρ.set j (some (.tup [kT p.1, mT p.2])))[j]? = some (some (.tup [kT p.1, mT p.2])) := by rw [List.getElem?_set_self l]
    refine ⟨hok, _, rfl, ?_⟩
    show uOp gIx (uVar j) (uC (.int 1)) _ _ _ _
    refine ⟨_, e2, mT p.2, ?_, szn (by omega), hN _ _ ⟨?_, rfl⟩⟩
    · show gIx (.tup [kT p.1, mT p.2]) (.int 1) (mT p.2)
      rw [ix_t]; exact at_1
    · rw [take_snoc ep]; unfold pV; rw [List.map_append]; exact (mTL_snoc _ _).symm
  · rintro acc S' ⟨rfl, rfl⟩
    rw [pT_len, List.take_of_length_le (Nat.le_refl _)]
    exact ⟨hok, h⟩
theorem nodup_set {k : Key} : ∀ {ks : List Key} {i : Nat}, ks.Nodup → k ∉ ks → (ks.set i k).Nodup
  | [], _, _, _ => by simp
  | j :: js, 0, nd, h => by
    have nd' := List.nodup_cons.mp nd
    exact List.nodup_cons.mpr ⟨fun z => h (List.mem_cons_of_mem _ z), nd'.2⟩
  | j :: js, i + 1, nd, h => by
    have nd' := List.nodup_cons.mp nd
    refine List.nodup_cons.mpr ⟨fun z => ?_, nodup_set nd'.2 fun z => h (List.mem_cons_of_mem _ z)⟩
    rcases List.mem_or_eq_of_mem_set z with z | z
    · exact nd'.1 z
    · exact h (z ▸ List.mem_cons_self ..)
theorem ixN_nat {n i : Nat} (h : i < n) : ixN n (i : Int) = some i := by
  unfold ixN
  rw [if_pos (by omega)]
  simp [h]
theorem ShfL.get : ∀ {vs ws : List Val} {i : Nat} {v : Val}, ShfL vs ws → vs[i]? = some v → ∃ w, ws[i]? = some w ∧ Shf v w
  | [], _, i, v, _, h => by simp at h
  | x :: xs, _, 0, v, h, e => by obtain ⟨w, us, rfl, h1, h2⟩ := h; cases e; exact ⟨w, rfl, h1⟩
  | x :: xs, _, i + 1, v, h, e => by obtain ⟨w, us, rfl, h1, h2⟩ := h; rw [List.getElem?_cons_succ] at e ⊢; exact ShfL.get h2 e
mutual
theorem shf_same : ∀ (v w : Val), VOk v → VOk w → Shf v w → sameV false v w = true
  | .non, w, _, _, h => by cases h; rfl
  | .bl _, w, _, _, h => by cases h; simp [sameV]
  | .int _, w, _, _, h => by cases h; simp [sameV]
  | .str _, w, _, _, h => by cases h; simp [sameV]
  | .lst vs, w, hv, hw, h => by
    obtain ⟨ws, rfl, h⟩ := h
    have e := h.len
    simp only [sameV, decide_eq_true e.symm, Bool.true_and]
    exact (sameL_iff e.symm).mpr fun i a b ha hb => by
      obtain ⟨c, e1, s⟩ := h.get ha
      rw [hb] at e1; cases e1
      exact shf_all vs hv a (List.mem_of_getElem? ha) b (VOkL.get hw hb) s
  | .tup vs, w, hv, hw, h => by
    obtain ⟨ws, rfl, h⟩ := h
    have e := h.len
    simp only [sameV, decide_eq_true e.symm, Bool.true_and]
    exact (sameL_iff e.symm).mpr fun i a b ha hb => by
      obtain ⟨c, e1, s⟩ := h.get ha
      rw [hb] at e1; cases e1
      exact shf_all vs hv a (List.mem_of_getElem? ha) b (VOkL.get hw hb) s
  | .tab ks vs, w, hv, hw, h => by
    obtain ⟨js, ws, us, rfl, h, lj, pm⟩ := h
    obtain ⟨ov, lk, _, nk⟩ := hv
    obtain ⟨ow, _, _, nj⟩ := hw
    have e := h.len
    have l2 : ks.length = js.length := by
      have := pm.length_eq
      rw [List.length_zip, List.length_zip] at this
      omega
    simp only [sameV, decide_eq_true l2, Bool.true_and, Bool.not_false, Bool.true_or]
    refine (sameT_iff lk).mpr fun i k a hk ha => ?_
    obtain ⟨u, eu, s⟩ := h.get ha
    have hm : (k, u) ∈ ks.zip us := List.mem_of_getElem? (i := i) (List.getElem?_zip_eq_some.mpr ⟨hk, eu⟩)
    obtain ⟨m, hm2, em⟩ := List.getElem_of_mem (pm.mem_iff.mpr hm)
    have em : (js.zip ws)[m]? = some (k, u) := by rw [List.getElem?_eq_getElem hm2, em]
    obtain ⟨e1, e2⟩ := List.getElem?_zip_eq_some.mp em
    exact ⟨u, vget_at nj e1 e2, shf_all vs ov a (List.mem_of_getElem? ha) u (ow.get e2) s⟩
theorem shf_all : ∀ (vs : List Val), VOkL vs → ∀ v ∈ vs, ∀ w, VOk w → Shf v w → sameV false v w = true
  | [], _, _, h, _, _, _ => nomatch h
  | x :: xs, hv, v, hm, w, hw, s => by
    rcases List.mem_cons.mp hm with e | hm
    · rw [e] at s ⊢; exact shf_same x w hv.1 hw s
    · exact shf_all xs hv.2 v hm w hw s
end
theorem has_not {k : Key} {ks : List Key} (h : k ∉ ks) : hasK k ks = false := by
  cases e : hasK k ks with
  | false => rfl
  | true => exact absurd (hasK_iff.mp e) h
/-- an entry with a new key is put behind the others -/
theorem put_new {k : Key} {v : Val} {ps : List (Key × Val)} (h : k ∉ pK ps) : putP k v ps = ps ++ [(k, v)] := by
  unfold putP; rw [if_neg (by rw [has_not h]; decide)]
theorem take_new {ps : List (Key × Val)} {i : Nat} {p : Key × Val} (nd : (pK ps).Nodup) (e : ps[i]? = some p) : p.1 ∉ pK (ps.take i) := fun h => by
  have h2 : (pK ps)[i]? = some p.1 := by unfold pK; rw [List.getElem?_map, e]; rfl
  have := nodup_at nd h2
  rw [← Bool.not_eq_true, hasK_iff] at this
  exact this (by unfold pK at h ⊢; rw [← List.map_take]; exact h)
theorem PsOk.cut {n : Nat} {ps : List (Key × Val)} (h : PsOk n ps) (i : Nat) : PsOk n (ps.take i) :=
  ⟨by unfold pK; rw [List.map_take]; exact h.nd.sublist (List.take_sublist _ _), Nat.le_trans (by rw [List.length_take]; omega) h.len, fun p hp => h.ok p (List.mem_of_mem_take hp)⟩
theorem erase_map {α β : Type} {f : α → β} : ∀ {l : List α} {j : Nat}, (l.map f).eraseIdx j = (l.eraseIdx j).map f
  | [], _ => rfl
  | _ :: _, 0 => rfl
  | x :: xs, j + 1 => by show f x :: (xs.map f).eraseIdx j = f x :: (xs.eraseIdx j).map f; rw [erase_map]
theorem nodup_erase {k : Key} : ∀ {ks : List Key} {i : Nat}, ks.Nodup → ks[i]? = some k → k ∉ ks.eraseIdx i
  | [], _, _, h => by simp at h
  | j :: js, 0, nd, h => by cases h; exact (List.nodup_cons.mp nd).1
  | j :: js, i + 1, nd, h => by
    have nd' := List.nodup_cons.mp nd
    have h : js[i]? = some k := by simpa using h
    intro z
    rcases List.mem_cons.mp (show k ∈ j :: js.eraseIdx i from z) with e | z
    · exact nd'.1 (e ▸ List.mem_of_getElem? h)
    · exact nodup_erase nd'.2 h z
theorem mem_erase_ne {k j : Key} : ∀ {ks : List Key} {i : Nat}, j ∈ ks → ks[i]? = some k → j ≠ k → j ∈ ks.eraseIdx i
  | [], _, h, _, _ => nomatch h
  | x :: xs, 0, h, e, n => by cases e; exact (List.mem_cons.mp h).resolve_left n
  | x :: xs, i + 1, h, e, n => by
    have e : xs[i]? = some k := by simpa using e
    show j ∈ x :: xs.eraseIdx i
    rcases List.mem_cons.mp h with h | h
    · exact List.mem_cons.mpr (.inl h)
    · exact List.mem_cons_of_mem _ (mem_erase_ne h e n)
theorem look_self2 : ∀ {ps : List (Key × Val)} {p : Key × Val}, (pK ps).Nodup → p ∈ ps → lookP p.1 ps = some p.2
  | [], _, _, h => nomatch h
  | q :: ps, p, nd, h => by
    have nd' : q.1 ∉ pK ps ∧ (pK ps).Nodup := List.nodup_cons.mp nd
    unfold lookP
    rcases List.mem_cons.mp h with h | h
    · subst h; simp
    · have hne : q.1 ≠ p.1 := fun z => nd'.1 (z ▸ List.mem_map.mpr ⟨_, h, rfl⟩)
      rw [List.find?_cons_of_neg (by simpa using hne)]
      exact look_self2 nd'.2 h
/-! ### lists of keys compared -/
def kPD : Key → PyData
  | .inl n => .int n
  | .inr z => .str z
theorem kPD_toDs : ∀ ks : List Key, toDs (ks.map kT) = some (ks.map kPD)
  | [] => rfl
  | k :: ks => by cases k <;> (rw [List.map_cons]; unfold toDs; rw [kPD_toDs ks]; rfl)
theorem kPD_eqv : ∀ ks js : List Key, PyData.eqvAll (ks.map kPD) (js.map kPD) = decide (ks = js)
  | [], [] => rfl
  | [], _ :: _ => by simp [PyData.eqvAll]
  | _ :: _, [] => by simp [PyData.eqvAll]
  | k :: ks, j :: js => by
    rw [List.map_cons, List.map_cons, PyData.eqvAll, kPD_eqv ks js]
    have e : PyData.eqv (kPD k) (kPD j) = decide (k = j) := by
      cases k <;> cases j <;> simp [kPD, PyData.eqv]
      · rename_i a b; by_cases h : a = b <;> simp [h]
      · rename_i a b; by_cases h : a = b <;> simp [h]
    rw [e]
    by_cases h : k = j <;> by_cases g : ks = js <;> simp [h, g]
theorem kT_eqs {ks js : List Key} {n : Bool} {z : Tr} (h : ∀ k ∈ ks, KOk k) (g : ∀ k ∈ js, KOk k) : gEq n (.lst (ks.map kT)) (.lst (js.map kT)) z = (z = .bl (n ^^ decide (ks = js))) := by
  obtain ⟨ds, e1, h1, h2, h3⟩ := kT_toD h
  obtain ⟨es, e2, g1, g2, g3⟩ := kT_toD g
  rw [kPD_toDs] at e1 e2
  cases e1
  cases e2
  have s1 : SeqAt.shaped (.list (ks.map kPD)) = true := by
    show (PyData.canLayAll0 _ && decide (PyData.depthAll _ + 1 ≤ 64)) = true
    rw [h1, decide_eq_true (by omega)]; rfl
  have s2 : SeqAt.shaped (.list (js.map kPD)) = true := by
    show (PyData.canLayAll0 _ && decide (PyData.depthAll _ + 1 ≤ 64)) = true
    rw [g1, decide_eq_true (by omega)]; rfl
  have d1 : toD (.lst (ks.map kT)) = some (.list (ks.map kPD)) := by unfold toD; rw [kPD_toDs]; rfl
  have d2 : toD (.lst (js.map kT)) = some (.list (js.map kPD)) := by unfold toD; rw [kPD_toDs]; rfl
  refine propext ⟨fun q => ?_, fun q => .inr ⟨rfl, _, _, d1, d2, s1, s2, by rw [q]; show _ = Tr.bl (n ^^ PyData.eqvAll _ _); rw [kPD_eqv]⟩⟩
  rcases q with ⟨b, e, _⟩ | ⟨_, d, e, q1, q2, _, _, q⟩
  · cases e
  · rw [d1] at q1; cases q1
    rw [d2] at q2; cases q2
    rw [q]; show Tr.bl (n ^^ PyData.eqvAll _ _) = _; rw [kPD_eqv]
end KQ
namespace KQ
open PySem PySem.Spec PyProof.Rows L2 TL KB
def kindsL : List Str := ["null", "true", "false", "integer", "text", "list", "tuple", "table"]
theorem kinds_in {z : Str} : inV (V.str z) (kindsL.map V.str) = decide (z ∈ kindsL) := by
  have := kV_in (.inr z) (kindsL.map Sum.inr)
  rw [List.map_map] at this
  refine (show inV (V.str z) (kindsL.map V.str) = _ from this).trans (bool_iff ?_)
  rw [hasK_iff, decide_eq_true_eq]
  simp
theorem kinds_pr {z : Str} (h : z ∈ kindsL) : Pr z ∧ z.length ≤ 7 := by
  have : ∀ y ∈ kindsL, okS 7 y = true := by decide
  exact okS_pr (this z h)
def KAtom (y : Tr) : Prop := ∃ k : Key, y = kT k ∧ KOk k
def AtomM (y : Tr) : Prop := y = .tup [.str "null", .non] ∨ y = .tup [.str "true", .non] ∨ y = .tup [.str "false", .non] ∨ (∃ n : Int, y = .tup [.str "integer", .int n] ∧ n.natAbs < 10 ^ 30) ∨ ∃ z : Str, y = .tup [.str "text", .str z] ∧ Pr z ∧ z.length ≤ 300
/-! models of the laws k35-k58 -/
mutual
def nM : Val → Tr
  | .non => .tup [.str "null", .non]
  | .bl true => .tup [.str "true", .non]
  | .bl false => .tup [.str "false", .non]
  | .int n => .tup [.str "integer", .int n]
  | .str z => .tup [.str "text", .str z]
  | .lst vs => .tup [.str "list", .lst (nML vs)]
  | .tup vs => .tup [.str "tuple", .lst (nML vs)]
  | .tab ks vs => .tup [.str "table", .lst (nMP ks vs)]
def nML : List Val → List Tr
  | [] => []
  | v :: vs => nM v :: nML vs
def nMP : List Key → List Val → List Tr
  | k :: ks, v :: vs => .tup [kT k, nM v] :: nMP ks vs
  | _, _ => []
end
theorem nML_map : ∀ vs : List Val, nML vs = vs.map nM
  | [] => rfl
  | v :: vs => by rw [nML, nML_map vs]; rfl
theorem nMP_app : ∀ {ks : List Key} {vs : List Val} {k : Key} {v : Val}, ks.length = vs.length → nMP (ks ++ [k]) (vs ++ [v]) = nMP ks vs ++ [.tup [kT k, nM v]]
  | [], [], k, v, _ => by rw [List.nil_append, List.nil_append, nMP, nMP]; rfl; all_goals (intros; simp_all)
  | j :: ks, w :: vs, k, v, h => by
    rw [List.cons_append, List.cons_append, nMP, nMP, nMP_app (by simpa using h)]; rfl
theorem nMP_len : ∀ (ks : List Key) (vs : List Val), (nMP ks vs).length ≤ ks.length
  | [], _ => by rw [nMP]; exact Nat.le_refl _; all_goals (intros; simp_all)
  | _ :: _, [] => by rw [nMP]; exact Nat.zero_le _; all_goals (intros; simp_all)
  | _ :: ks, _ :: vs => by rw [nMP]; have := nMP_len ks vs; simp only [List.length_cons]; omega
structure Hide (p : Prop) : Prop where
  go : p
theorem atom_val {y : Tr} (h : AtomM y) : ∃ v : Val, y = nM v ∧ VOk v ∧ vdepth v = 0 ∧ vparts v = 1 := by
  rcases h with rfl | rfl | rfl | ⟨n, rfl, h⟩ | ⟨z, rfl, h⟩
  · exact ⟨.non, rfl, trivial, rfl, rfl⟩
  · exact ⟨.bl true, rfl, trivial, rfl, rfl⟩
  · exact ⟨.bl false, rfl, trivial, rfl, rfl⟩
  · exact ⟨.int n, rfl, h, rfl, rfl⟩
  · exact ⟨.str z, rfl, h, rfl, rfl⟩
theorem vtake : ∀ (n : Nat) {vs : List Val}, VOkL vs → VOkL (vs.take n) ∧ vdepthL (vs.take n) ≤ vdepthL vs ∧ vpartsL (vs.take n) ≤ vpartsL vs
  | 0, vs, _ => ⟨trivial, Nat.zero_le _, Nat.zero_le _⟩
  | n + 1, [], h => ⟨h, Nat.le_refl _, Nat.le_refl _⟩
  | n + 1, v :: vs, h => by
    obtain ⟨h1, h2, h3⟩ := vtake n (vs := vs) h.2
    refine ⟨⟨h.1, h1⟩, ?_, ?_⟩
    · show max (vdepth v) (vdepthL (vs.take n)) ≤ max (vdepth v) (vdepthL vs); omega
    · show vparts v + vpartsL (vs.take n) ≤ vparts v + vpartsL vs; omega
theorem cont_val {ks : List Key} {vs : List Val} {w : Val} (hv : VOkL vs) (okk : ∀ k ∈ ks, KOk k) (h : w = .lst vs ∨ w = .tup vs ∨ ∃ (js : List Key) (n : Nat), w = .tab js (vs.take n) ∧ js.length = (vs.take n).length ∧ js.Nodup ∧ ∀ j ∈ js, j ∈ ks) :
    VOk w ∧ vdepth w ≤ 1 + vdepthL vs ∧ vparts w ≤ 1 + vpartsL vs := by
  rcases h with rfl | rfl | ⟨js, n, rfl, h1, h2, h3⟩
  · exact ⟨hv, Nat.le_refl _, Nat.le_refl _⟩
  · exact ⟨hv, Nat.le_refl _, Nat.le_refl _⟩
  · obtain ⟨t1, t2, t3⟩ := vtake n hv
    exact ⟨⟨t1, h1, fun k hk => okk k (h3 k hk), h2⟩, Nat.add_le_add_left t2 1, Nat.add_le_add_left t3 1⟩
theorem str_key (k : Key) (h : KOk k) : ∃ z : Str, gStr4 [kT k] (.str z) ∧ KOk (.inr z) := by
  cases k with
  | inl n => exact ⟨Str.ofString (toString n), ⟨log_int h, rfl⟩, pr_int n, Nat.le_trans (len_int (k := 30) (by decide) h) (by decide)⟩
  | inr z => exact ⟨z, rfl, h⟩
theorem cut_take {xs : List Tr} {m : Nat} : cutT xs none (some (m : Int)) = xs.take m := by
  unfold cutT
  rw [HT.sIx_none, HT.sIx_nat, List.drop_zero, Nat.sub_zero]
  rcases Nat.le_total m xs.length with h | h
  · rw [Nat.min_eq_left h]
  · rw [Nat.min_eq_right h, List.take_of_length_le (Nat.le_refl _), List.take_of_length_le h]
theorem cut_lastN {xs : List Tr} {n j : Nat} (h : j ≤ n) (e : xs.length = n := by simp) : cutT xs (some ((n : Int) - (j : Int))) none = xs.drop (n - j) := by
  have : (n : Int) - (j : Int) = ((n - j : Nat) : Int) := by omega
  rw [this]
  unfold cutT
  rw [HT.sIx_nat, HT.sIx_none, Nat.min_eq_left (by omega)]
  apply List.take_of_length_le
  rw [List.length_drop]; omega
theorem max_of : ∀ (ns : List Int), ns ≠ [] → ∃ m, m ∈ ns ∧ ∀ y ∈ ns, y ≤ m
  | [], h => absurd rfl h
  | [n], _ => ⟨n, by simp, fun y hy => by rw [List.mem_singleton.mp hy]; exact Int.le_refl _⟩
  | n :: k :: ns, _ => by
    obtain ⟨m, h1, h2⟩ := max_of (k :: ns) (by simp)
    by_cases h : m ≤ n
    · refine ⟨n, by simp, fun y hy => ?_⟩
      rcases List.mem_cons.mp hy with rfl | hy
      · exact Int.le_refl _
      · exact Int.le_trans (h2 y hy) h
    · refine ⟨m, List.mem_cons_of_mem _ h1, fun y hy => ?_⟩
      rcases List.mem_cons.mp hy with rfl | hy
      · omega
      · exact h2 y hy
theorem okL_memN : ∀ {vs : List Val}, (∀ v ∈ vs, VOk v) → VOkL vs
  | [], _ => trivial
  | v :: vs, h => ⟨h v (by simp), okL_memN fun w hw => h w (List.mem_cons_of_mem _ hw)⟩
theorem vdL_le {n : Nat} : ∀ {vs : List Val}, (∀ v ∈ vs, vdepth v ≤ n) → vdepthL vs ≤ n
  | [], _ => Nat.zero_le _
  | v :: vs, h => by
    have h1 := h v (by simp)
    have h2 := vdL_le (n := n) (vs := vs) fun w hw => h w (List.mem_cons_of_mem _ hw)
    show max (vdepth v) (vdepthL vs) ≤ n
    omega
theorem str_flats (ls : List Str) : flatTs (ls.map Tr.str) = some (ls.map V.str) := by
  have := kT_flats (ls.map Sum.inr)
  rw [List.map_map, List.map_map] at this
  exact this
theorem str_in (z : Str) (ls : List Str) : inV (V.str z) (ls.map V.str) = decide (z ∈ ls) := by
  have := kV_in (.inr z) (ls.map Sum.inr)
  rw [List.map_map] at this
  refine (show inV (V.str z) (ls.map V.str) = _ from this).trans (bool_iff ?_)
  rw [hasK_iff, decide_eq_true_eq]
  simp
theorem inr_kT (ls : List Str) : (ls.map (Sum.inr : Str → Key)).map kT = ls.map Tr.str := by rw [List.map_map]; rfl
theorem dk_vals : ∀ {ks : List Key} {xs : List Tr}, ks.length = xs.length → DK.list .vals ks xs = xs
  | [], [], _ => rfl
  | k :: ks, x :: xs, h => by rw [dk_cons, dk_vals (by simpa using h)]; rfl
theorem bls_map {α : Type} (f : α → Bool) : ∀ l : List α, blsOf (l.map fun x => Tr.bl (f x)) = some (l.map f)
  | [] => rfl
  | x :: xs => by rw [List.map_cons, List.map_cons, blsOf, bls_map f xs]; rfl
theorem fs_at {α β : Type} {f : α → Option β} : ∀ {l : List α} {i : Nat} {a : α} {b : β}, l[i]? = some a → f a = some b → (∀ x ∈ l.take i, f x = none) → l.findSome? f = some b
  | x :: l, 0, a, b, h, hb, _ => by cases h; rw [List.findSome?_cons, hb]
  | x :: l, i + 1, a, b, h, hb, hn => by
    rw [List.findSome?_cons, hn x (by simp)]
    exact fs_at (i := i) h hb fun y hy => hn y (by rw [List.take_succ_cons]; exact List.mem_cons_of_mem _ hy)
/-! membership in written lists of texts, for the walk "vl" -/
theorem fl_cons {z : Str} {xs : List Tr} : flatTs (.str z :: xs) = (flatTs xs).map (V.str z :: ·) := by
  rw [flatTs]; cases flatTs xs <;> rfl
theorem fl_nil : flatTs [] = some [] := rfl
theorem iv_cons {z y : Str} {vs : List V} : inV (V.str z) (V.str y :: vs) = (decide (z = y) || inV (V.str z) vs) := by
  have e : ∀ ls : List V, inV (V.str z) (V.str y :: ls) = (eqV (V.str y) (V.str z) || inV (V.str z) ls) := fun ls => by
    unfold inV; rw [List.any_cons]
  rw [e]
  have k := kV_in (.inr z) [.inr y]
  rw [List.map_cons, List.map_nil] at k
  have k2 := e []
  have n : inV (V.str z) [] = false := rfl
  rw [n, Bool.or_false] at k2
  rw [← k2]
  refine congrArg (· || _) ((show inV (V.str z) [V.str y] = _ from k).trans ?_)
  unfold hasK
  rw [List.any_cons, List.any_nil, Bool.or_false]
  refine bool_iff ?_
  rw [decide_eq_true_eq, decide_eq_true_eq]
  exact ⟨fun h => (Sum.inr.inj h).symm, fun h => by rw [h]⟩
theorem iv_nil {v : V} : inV v [] = false := rfl
theorem vTP_zip {C : Addr} (ks : List Key) (vs : List Val) : vTP C ks vs = (ks.zip vs).map fun p => Tr.tup [kT p.1, vT C p.2] := by
  unfold vTP; rw [List.zip, List.map_zipWith]
/-- what a model holds beside its kind -/
def payT : Val → Tr
  | .non => .non
  | .bl _ => .non
  | .int n => .int n
  | .str z => .str z
  | .lst vs => .lst (vs.map nM)
  | .tup vs => .lst (vs.map nM)
  | .tab ks vs => .lst (nMP ks vs)
theorem nM_eq (v : Val) : nM v = .tup [.str (kindS v), payT v] := by
  cases v with
  | bl b => cases b <;> rfl
  | lst vs => simp only [nM, nML_map]; rfl
  | tup vs => simp only [nM, nML_map]; rfl
  | _ => rfl
theorem kindS_mem (v : Val) : kindS v ∈ kindsL := by
  cases v with
  | bl b => cases b <;> simp [kindS, kindsL]
  | _ => simp [kindS, kindsL]
theorem vw_nM {S : Sto} {v : Val} : vw S (nM v) = .tup [.str (kindS v), payT v] := by rw [nM_eq]; rfl
theorem vw_payT {S : Sto} {v : Val} : vw S (payT v) = payT v := by cases v <;> rfl
/-- the place of a key -/
def kIx (k : Key) (ks : List Key) : Nat := ks.findIdx fun j => decide (j = k)
theorem eqV_kV (a b : Key) : eqV (kV a) (kV b) = decide (a = b) := by
  have := kV_in b [a]
  unfold inV hasK at this
  rw [List.map_cons, List.map_nil, List.any_cons, List.any_nil, Bool.or_false, List.any_cons, List.any_nil, Bool.or_false] at this
  exact this
theorem kIx_lt {k : Key} {ks : List Key} (h : k ∈ ks) : kIx k ks < ks.length := List.findIdx_lt_length_of_exists ⟨k, h, decide_eq_true rfl⟩
theorem kIx_get {k : Key} {ks : List Key} (h : k ∈ ks) : ks[kIx k ks]? = some k := by
  have hl := kIx_lt h
  rw [List.getElem?_eq_getElem hl]
  have := List.findIdx_getElem (p := fun j => decide (j = k)) (w := hl)
  exact congrArg some (of_decide_eq_true this)
theorem kIx_ne {k j : Key} {ks : List Key} {m : Nat} (h : m < kIx k ks) (e : ks[m]? = some j) : j ≠ k := by
  obtain ⟨hl, rfl⟩ := List.getElem?_eq_some_iff.mp e
  have := List.not_of_lt_findIdx h
  exact fun z => by simp [z] at this
theorem index_key {k : Key} {ks : List Key} (h : k ∈ ks) : gIndex (.lst (ks.map kT)) [kT k] (.int (kIx k ks : Nat)) := by
  refine ⟨_, _, kV k, ks.map kV, kIx k ks, kV k, rfl, rfl, kT_flat k, kT_flats ks, by rw [List.getElem?_map, kIx_get h]; rfl, by rw [eqV_kV]; exact decide_eq_true rfl, fun m w hm hw => ?_, rfl⟩
  rw [List.getElem?_map] at hw
  obtain ⟨j, hj, rfl⟩ := Option.map_eq_some_iff.mp hw
  rw [eqV_kV]
  exact decide_eq_false (kIx_ne hm hj)
theorem count_str {l : Str} {ls : List Str} : gCount (.lst (ls.map .str)) [.str l] (.int (ls.countP (fun x => decide (x = l)) : Nat)) := by
  refine ⟨_, _, .str l, ls.map V.str, rfl, rfl, rfl, str_flats ls, ?_⟩
  rw [List.countP_map]
  have : ∀ x : Str, ((fun z => eqV z (.str l)) ∘ V.str) x = decide (x = l) := fun x => by
    have := eqV_kV (.inr x) (.inr l)
    refine (show eqV (.str x) (.str l) = _ from this).trans (bool_iff ?_)
    rw [decide_eq_true_eq, decide_eq_true_eq]
    exact ⟨Sum.inr.inj, fun h => by rw [h]⟩
  rw [show ((fun z => eqV z (.str l)) ∘ V.str) = fun x => decide (x = l) from funext this]
theorem nMP_zip : ∀ (ks : List Key) (vs : List Val), nMP ks vs = (ks.zip vs).map fun p => Tr.tup [kT p.1, nM p.2]
  | [], [] => by simp [nMP]
  | [], _ :: _ => by simp [nMP]
  | _ :: _, [] => by simp [nMP]
  | k :: ks, v :: vs => by rw [nMP, nMP_zip ks vs]; rfl
theorem zip_snd {α β : Type} : ∀ {ks : List α} {vs : List β}, ks.length = vs.length → (ks.zip vs).map (·.2) = vs
  | [], [], _ => rfl
  | _ :: ks, v :: vs, h => by rw [List.zip_cons_cons, List.map_cons, zip_snd (by simpa using h)]
theorem zip_fst {α β : Type} : ∀ {ks : List α} {vs : List β}, ks.length = vs.length → (ks.zip vs).map (·.1) = ks
  | [], [], _ => rfl
  | _ :: ks, v :: vs, h => by rw [List.zip_cons_cons, List.map_cons, zip_fst (by simpa using h)]
/-! ### conditions -/
inductive CT where
  | kind | equals | size | has | item | before | first | every | some | both | either | inv
inductive Cnd where
  | kind (z : Str)
  | equals (k : Key)
  | size (n : Int)
  | has (k : Key)
  | item (k : Key) (l : Str)
  | before (k j : Key)
  | first (l : Str)
  | every (l : Str)
  | some (l : Str)
  | both (a b : Cnd)
  | either (a b : Cnd)
  | inv (a : Cnd)
def Cnd.tag : Cnd → CT
  | .kind _ => .kind
  | .equals _ => .equals
  | .size _ => .size
  | .has _ => .has
  | .item _ _ => .item
  | .before _ _ => .before
  | .first _ => .first
  | .every _ => .every
  | .some _ => .some
  | .both _ _ => .both
  | .either _ _ => .either
  | .inv _ => .inv
/-- the classes of the conditions; those that a law's text lacks are none -/
structure CA where
  adr : CT → Option Addr
  seen : Addr
def CA.of (a : CA) (τ : CT) : Addr := (a.adr τ).getD 0
def cT (a : CA) : Cnd → Tr
  | .kind z => .ins (a.of .kind) ["name"] [.str z]
  | .equals k => .ins (a.of .equals) ["atom"] [kT k]
  | .size n => .ins (a.of .size) ["count"] [.int n]
  | .has k => .ins (a.of .has) ["key"] [kT k]
  | .item k l => .ins (a.of .item) ["key", "label"] [kT k, .str l]
  | .before k j => .ins (a.of .before) ["first", "second"] [kT k, kT j]
  | .first l => .ins (a.of .first) ["label"] [.str l]
  | .every l => .ins (a.of .every) ["label"] [.str l]
  | .some l => .ins (a.of .some) ["label"] [.str l]
  | .both c d => .ins (a.of .both) ["left", "right"] [cT a c, cT a d]
  | .either c d => .ins (a.of .either) ["left", "right"] [cT a c, cT a d]
  | .inv c => .ins (a.of .inv) ["inner"] [cT a c]
def LOk (l : Str) : Prop := Pr l ∧ l.length ≤ 300
def COk (a : CA) : Cnd → Prop
  | .kind z => (∃ C, a.adr .kind = Option.some C) ∧ z ∈ kindsL
  | .equals k => (∃ C, a.adr .equals = Option.some C) ∧ KOk k
  | .size n => (∃ C, a.adr .size = Option.some C) ∧ 0 ≤ n ∧ n ≤ 4
  | .has k => (∃ C, a.adr .has = Option.some C) ∧ KOk k
  | .item k l => (∃ C, a.adr .item = Option.some C) ∧ KOk k ∧ LOk l
  | .before k j => (∃ C, a.adr .before = Option.some C) ∧ KOk k ∧ KOk j
  | .first l => (∃ C, a.adr .first = Option.some C) ∧ LOk l
  | .every l => (∃ C, a.adr .every = Option.some C) ∧ LOk l
  | .some l => (∃ C, a.adr .some = Option.some C) ∧ LOk l
  | .both c d => (∃ C, a.adr .both = Option.some C) ∧ COk a c ∧ COk a d
  | .either c d => (∃ C, a.adr .either = Option.some C) ∧ COk a c ∧ COk a d
  | .inv c => (∃ C, a.adr .inv = Option.some C) ∧ COk a c
def cdep : Cnd → Nat
  | .both a b => 1 + max (cdep a) (cdep b)
  | .either a b => 1 + max (cdep a) (cdep b)
  | .inv a => 1 + cdep a
  | _ => 1
theorem cdep_pos (c : Cnd) : 0 < cdep c := by cases c <;> simp only [cdep] <;> omega
/-- how many leaves -/
def csz : Cnd → Nat
  | .both a b => csz a + csz b
  | .either a b => csz a + csz b
  | .inv a => csz a
  | _ => 1
def isLeaf : CT → Bool
  | .both => false
  | .either => false
  | .inv => false
  | _ => true
def anyTag : CT → Bool := fun _ => true
theorem COk.at {a : CA} {c : Cnd} (h : COk a c) : ∃ C, a.adr c.tag = Option.some C := by
  cases c <;> exact h.1
def fldL : List Str := ["name", "atom", "count", "key", "label", "first", "second", "left", "right", "inner"]
/-- a condition as an object -/
theorem cT_ins {a : CA} {c : Cnd} (h : COk a c) : ∃ C fs xs, a.adr c.tag = Option.some C ∧ cT a c = .ins C fs xs ∧ (∀ m, m ∉ fldL → fget m fs xs = none) := by
  obtain ⟨C, hC⟩ := h.at
  refine ⟨C, ?_⟩
  cases c <;> (simp only [Cnd.tag] at hC; refine ⟨_, _, hC, by rw [cT, CA.of, hC]; rfl, fun m hm => ?_⟩; simp only [fldL, List.mem_cons, List.not_mem_nil, or_false, not_or] at hm; simp [fget, hm])
/-- the methods of the condition classes, by their tags -/
def vm (a : CA) (sp : CT → TSp) : Addr → TSp → Prop := fun C t => ∃ τ, a.adr τ = Option.some C ∧ t = sp τ
theorem vm_go {a : CA} {sp : CT → TSp} {c : Cnd} {m : Str} {S : Sto} {F : TSp → Prop} (h : COk a c) (hm : m ∉ fldL) (hF : F (sp c.tag)) :
    ∃ C fs xs, vw S (cT a c) = .ins C fs xs ∧ ∃ t, vm a sp C t ∧ fget m fs xs = none ∧ F t := by
  obtain ⟨C, fs, xs, h1, h2, h3⟩ := cT_ins h
  exact ⟨C, fs, xs, by rw [h2]; rfl, sp c.tag, ⟨_, h1, rfl⟩, h3 m hm, hF⟩
/-! what a condition sees of a value v whose items have the labels ls -/
def isBox : Val → Bool
  | .lst _ => true
  | .tup _ => true
  | .tab _ _ => true
  | _ => false
def vitems : Val → List Val
  | .lst vs => vs
  | .tup vs => vs
  | .tab _ vs => vs
  | _ => []
theorem item_ok {v w : Val} (ov : VOk v) (h : w ∈ vitems v) : VOk w ∧ vdepth w < vdepth v ∧ vparts w < vparts v := by
  have key : ∀ vs : List Val, VOkL vs → w ∈ vs → VOk w ∧ vdepth w < 1 + vdepthL vs ∧ vparts w < 1 + vpartsL vs := fun vs hv hm => by
    obtain ⟨i, hi⟩ := List.getElem?_of_mem hm
    have := vdepth_get hi
    have := vparts_get hi
    exact ⟨hv.get hi, by omega, by omega⟩
  cases v with
  | lst vs => exact key vs ov h
  | tup vs => exact key vs ov h
  | tab ks vs => exact key vs ov.1 h
  | _ => cases h
theorem vitems_len {v : Val} : (vitems v).length < vparts v := by
  cases v with
  | lst vs => have := vpartsL_ge vs; show vs.length < 1 + vpartsL vs; omega
  | tup vs => have := vpartsL_ge vs; show vs.length < 1 + vpartsL vs; omega
  | tab ks vs => have := vpartsL_ge vs; show vs.length < 1 + vpartsL vs; omega
  | _ => simp [vitems, vparts]
theorem turns_of (l : Nat) (k : Int) (h0 : 1 ≤ k) (h1 : k ≤ 1000) : ∃ m : Nat, (if (if (l : Int) < k then (l : Int) else k) > 1 then if (l : Int) < k then (l : Int) else k else 1) = (m : Int) ∧ (m : Int) ≤ k := by
  refine ⟨(if (if (l : Int) < k then (l : Int) else k) > 1 then if (l : Int) < k then (l : Int) else k else 1).toNat, ?_, ?_⟩ <;> split <;> (try split) <;> omega
def atomT : Val → Tr
  | .non => .non
  | .bl b => .bl b
  | .int n => .int n
  | .str z => .str z
  | _ => .non
def keysT : Val → Tr
  | .tab ks _ => .lst (ks.map kT)
  | _ => .non
def labsT (v : Val) (ls : List Str) : Tr := if isBox v = true then .lst (ls.map .str) else .non
def seenT (a : CA) (v : Val) (ls : List Str) : Tr := .ins a.seen ["shape", "atom", "key_rows", "labels"] [.str (kindS v), atomT v, keysT v, labsT v ls]
theorem box_kind {v : Val} : (kindS v = ("list" : Str) ∨ kindS v = ("tuple" : Str) ∨ kindS v = ("table" : Str)) ↔ isBox v = true := by
  cases v with
  | bl b => cases b <;> (refine ⟨fun h => ?_, fun h => by cases h⟩; revert h; decide)
  | lst _ => exact ⟨fun _ => rfl, fun _ => .inl rfl⟩
  | tup _ => exact ⟨fun _ => rfl, fun _ => .inr (.inl rfl)⟩
  | tab _ _ => exact ⟨fun _ => rfl, fun _ => .inr (.inr rfl)⟩
  | non => refine ⟨fun h => ?_, fun h => by cases h⟩; revert h; decide
  | int n =>
    refine ⟨fun h => ?_, fun h => by cases h⟩
    have : ¬ (("integer" : Str) = ("list" : Str) ∨ ("integer" : Str) = ("tuple" : Str) ∨ ("integer" : Str) = ("table" : Str)) := by decide
    exact absurd h this
  | str n =>
    refine ⟨fun h => ?_, fun h => by cases h⟩
    have : ¬ (("text" : Str) = ("list" : Str) ∨ ("text" : Str) = ("tuple" : Str) ∨ ("text" : Str) = ("table" : Str)) := by decide
    exact absurd h this
theorem vw_seenT {S : Sto} {a : CA} {v : Val} {ls : List Str} : vw S (seenT a v ls) = .ins a.seen ["shape", "atom", "key_rows", "labels"] [.str (kindS v), atomT v, keysT v, labsT v ls] := rfl
def holds : Cnd → Val → List Str → Bool
  | .kind z, v, _ => decide (kindS v = z)
  | .equals k, v, _ => match v, k with
    | .int n, .inl m => decide (n = m)
    | .str z, .inr y => decide (z = y)
    | _, _ => false
  | .size n, v, ls => isBox v && decide ((ls.length : Int) = n)
  | .has k, v, _ => match v with
    | .tab ks _ => hasK k ks
    | _ => false
  | .item k l, v, ls => match v with
    | .tab ks _ => hasK k ks && decide (ls[kIx k ks]? = Option.some l)
    | _ => false
  | .before k j, v, _ => match v with
    | .tab ks _ => hasK k ks && hasK j ks && decide (kIx k ks < kIx j ks)
    | _ => false
  | .first l, v, ls => match v with
    | .lst _ => decide (ls.take 1 = [l])
    | .tup _ => decide (ls.take 1 = [l])
    | _ => false
  | .every l, v, ls => isBox v && ls.all fun x => decide (x = l)
  | .some l, v, ls => isBox v && decide (l ∈ ls)
  | .both c d, v, ls => holds c v ls && holds d v ls
  | .either c d, v, ls => holds c v ls || holds d v ls
  | .inv c, v, ls => !holds c v ls
/-- the first rule that holds -/
def ruleOf : List (Str × Cnd) → Val → List Str → Str
  | [], _, _ => "other"
  | (z, c) :: rs, v, ls => if holds c v ls = true then z else ruleOf rs v ls
mutual
def labV (rs : List (Str × Cnd)) : Val → Str
  | .lst vs => ruleOf rs (.lst vs) (labsV rs vs)
  | .tup vs => ruleOf rs (.tup vs) (labsV rs vs)
  | .tab ks vs => ruleOf rs (.tab ks vs) (labsV rs vs)
  | .non => ruleOf rs .non []
  | .bl b => ruleOf rs (.bl b) []
  | .int n => ruleOf rs (.int n) []
  | .str z => ruleOf rs (.str z) []
def labsV (rs : List (Str × Cnd)) : List Val → List Str
  | [] => []
  | v :: vs => labV rs v :: labsV rs vs
end
theorem labsV_map (rs : List (Str × Cnd)) : ∀ vs, labsV rs vs = vs.map (labV rs)
  | [] => rfl
  | v :: vs => by rw [labsV, labsV_map rs vs]; rfl
theorem labV_eq (rs : List (Str × Cnd)) (v : Val) : labV rs v = ruleOf rs v ((vitems v).map (labV rs)) := by
  cases v <;> simp only [labV, vitems, labsV_map, List.map_nil]
/-- whether a condition holds for a value, by the labels -/
def fitsV (rs : List (Str × Cnd)) (c : Cnd) (v : Val) : Bool := holds c v ((vitems v).map (labV rs))
/-! what a condition mentions -/
def leavesC : Cnd → List Cnd
  | .both a b => leavesC a ++ leavesC b
  | .either a b => leavesC a ++ leavesC b
  | .inv a => leavesC a
  | c => [c]
def ownK : Cnd → List Key
  | .has k => [k]
  | .item k _ => [k]
  | .before k j => [k, j]
  | _ => []
def ownL : Cnd → List Str
  | .item _ l => [l]
  | .first l => [l]
  | .every l => [l]
  | .some l => [l]
  | _ => []
/-- without the later ones -/
def nub {α : Type} [DecidableEq α] : List α → List α → List α
  | acc, [] => acc
  | acc, x :: xs => if x ∈ acc then nub acc xs else nub (acc ++ [x]) xs
def keyL (c : Cnd) : List Key := nub [] ((leavesC c).flatMap ownK)
def labL (c : Cnd) : List Str := nub [] ((leavesC c).flatMap ownL)
theorem leaves_len (c : Cnd) : (leavesC c).length = csz c := by
  induction c <;> simp_all [leavesC, csz]
theorem leaves_ok {a : CA} {c : Cnd} (h : COk a c) : ∀ d ∈ leavesC c, COk a d ∧ isLeaf d.tag = true := by
  induction c with
  | both c d ih1 ih2 => intro x hx; rcases List.mem_append.mp hx with hx | hx; exact ih1 h.2.1 x hx; exact ih2 h.2.2 x hx
  | either c d ih1 ih2 => intro x hx; rcases List.mem_append.mp hx with hx | hx; exact ih1 h.2.1 x hx; exact ih2 h.2.2 x hx
  | inv c ih => exact ih h.2
  | _ => intro x hx; rw [List.mem_singleton.mp hx]; exact ⟨h, rfl⟩
theorem nub_app {α : Type} [DecidableEq α] : ∀ (acc xs ys : List α), nub acc (xs ++ ys) = nub (nub acc xs) ys
  | _, [], _ => rfl
  | acc, x :: xs, ys => by
    rw [List.cons_append, nub, nub]
    split
    · exact nub_app acc xs ys
    · exact nub_app _ xs ys
theorem nub_in {α : Type} [DecidableEq α] {acc xs : List α} {x : α} (h : x ∈ nub acc xs) : nub acc (xs ++ [x]) = nub acc xs := by
  rw [nub_app, nub, if_pos h]; rfl
theorem nub_out {α : Type} [DecidableEq α] {acc xs : List α} {x : α} (h : x ∉ nub acc xs) : nub acc (xs ++ [x]) = nub acc xs ++ [x] := by
  rw [nub_app, nub, if_neg h]; rfl
theorem nub_mem {α : Type} [DecidableEq α] : ∀ {acc xs : List α} {y : α}, y ∈ nub acc xs ↔ y ∈ acc ∨ y ∈ xs
  | acc, [], y => by simp [nub]
  | acc, x :: xs, y => by
    unfold nub
    split
    · rename_i h; rw [nub_mem]; constructor
      · rintro (h1 | h1)
        · exact .inl h1
        · exact .inr (List.mem_cons_of_mem _ h1)
      · rintro (h1 | h1)
        · exact .inl h1
        · rcases List.mem_cons.mp h1 with rfl | h1
          · exact .inl h
          · exact .inr h1
    · rw [nub_mem, List.mem_append, List.mem_singleton, List.mem_cons]
      constructor
      · rintro ((h1 | h1) | h1)
        · exact .inl h1
        · exact .inr (.inl h1)
        · exact .inr (.inr h1)
      · rintro (h1 | h1 | h1)
        · exact .inl (.inl h1)
        · exact .inl (.inr h1)
        · exact .inr h1
theorem nub_len {α : Type} [DecidableEq α] : ∀ (acc xs : List α), (nub acc xs).length ≤ acc.length + xs.length
  | acc, [] => by simp [nub]
  | acc, x :: xs => by
    unfold nub
    split
    · have := nub_len acc xs; simp only [List.length_cons]; omega
    · have := nub_len (acc ++ [x]) xs; simp only [List.length_append, List.length_cons, List.length_nil] at this ⊢; omega
/-! the labels as an object -/
def namesL (rs : List (Str × Cnd)) : List Str := rs.map (·.1) ++ ([("other" : Str)] : List Str)
def labT (C : Addr) (a : CA) (rs : List (Str × Cnd)) : Tr := .ins C ["names", "rule_rows"] [.tup ((namesL rs).map .str), .lst (rs.map fun r => .tup [.str r.1, cT a r.2])]
theorem vw_labT {S : Sto} {C : Addr} {a : CA} {rs : List (Str × Cnd)} : vw S (labT C a rs) = .ins C ["names", "rule_rows"] [.tup ((namesL rs).map .str), .lst (rs.map fun r => .tup [.str r.1, cT a r.2])] := rfl
structure RsOk (a : CA) (rs : List (Str × Cnd)) : Prop where
  len : rs.length ≤ 3
  ok : ∀ r ∈ rs, COk a r.2 ∧ LOk r.1 ∧ cdep r.2 ≤ 16
def misL (rs : List (Str × Cnd)) (c : Cnd) : Option Str := (labL c).find? fun l => !decide (l ∈ namesL rs)
def lettersC : List Nat := (Str.ofString "abcdefghijklmnopqrstuvwxyz").cps.toList
def isWord (z : Str) : Bool := decide (1 ≤ z.length) && decide (z.length ≤ 8) && z.cps.toList.all fun n => decide (n ∈ lettersC)
inductive LE where
  | ok
  | bad (z : Str)
  | no (l : Str)
  | much
def badN : List Str → List Str → Option Str
  | _, [] => none
  | acc, z :: zs => if isWord z = true ∧ z ≠ "other" ∧ z ≠ "refused" ∧ z ∉ acc then badN (acc ++ [z]) zs else some z
def labE (rs : List (Str × Cnd)) : LE := match badN [] (rs.map (·.1)) with
  | some z => .bad z
  | none => match rs.findSome? fun r => misL rs r.2 with
    | some l => .no l
    | none => if rs.length ≤ 3 then .ok else .much
structure RlOk (a : CA) (rs : List (Str × Cnd)) : Prop where
  len : rs.length ≤ 1000
  ok : ∀ r ∈ rs, COk a r.2 ∧ LOk r.1 ∧ cdep r.2 ≤ 16 ∧ csz r.2 ≤ 100
def rowsT (a : CA) (rs : List (Str × Cnd)) : Tr := .lst (rs.map fun r => .tup [.str r.1, cT a r.2])
/-- the asking tuples of the laws -/
def askT : Cnd → Tr
  | .kind z => .tup [.str "kind", .str z]
  | .equals k => .tup [.str "equals", kT k]
  | .size n => .tup [.str "size", .int n]
  | .has k => .tup [.str "has", kT k]
  | .item k l => .tup [.str "item", kT k, .str l]
  | .before k j => .tup [.str "before", kT k, kT j]
  | .first l => .tup [.str "first", .str l]
  | .every l => .tup [.str "every", .str l]
  | .some l => .tup [.str "some", .str l]
  | .both c d => .tup [.str "and", askT c, askT d]
  | .either c d => .tup [.str "or", askT c, askT d]
  | .inv c => .tup [.str "not", askT c]
/-! ### more for conditions -/
theorem kIx_cons (k j : Key) (js : List Key) : kIx k (j :: js) = if j = k then 0 else kIx k js + 1 := by
  unfold kIx; rw [List.findIdx_cons]; by_cases h : j = k <;> simp [h]
theorem filt_key (k : Key) : ∀ {js : List Key} {us : List Val}, js.Nodup → js.length = us.length → ((js.zip us).filter fun p => decide (p.1 = k)).map (·.2) = us[kIx k js]?.toList
  | [], [], _, _ => rfl
  | j :: js, u :: us, nd, l => by
    have nd' := List.nodup_cons.mp nd
    have ih := filt_key k nd'.2 (us := us) (by simpa using l)
    rw [List.zip_cons_cons, kIx_cons]
    by_cases h : j = k
    · have z : (js.zip us).filter (fun p => decide (p.1 = k)) = [] := by
        rw [List.filter_eq_nil_iff]
        rintro ⟨a, b⟩ hm hd
        have : a = k := by simpa using hd
        exact nd'.1 (h ▸ this ▸ (List.of_mem_zip hm).1)
      rw [List.filter_cons_of_pos (by simp [h]), z, if_pos h]; rfl
    · rw [List.filter_cons_of_neg (by simp [h]), ih, if_neg h]; rfl
theorem zip_rev {α β : Type} {xs : List α} {ys : List β} (h : xs.length = ys.length) : (xs.zip ys).reverse = xs.reverse.zip ys.reverse := by
  rw [List.zip_eq_zipWith, List.zip_eq_zipWith, List.reverse_zipWith h]
theorem atoms0a : ∀ x ∈ [Tr.int 0, .str "a"], KAtom x := by
  intro x hx
  simp only [List.mem_cons, List.not_mem_nil, or_false] at hx
  rcases hx with rfl | rfl
  · exact ⟨.inl 0, rfl, (by decide : (0 : Int).natAbs < 10 ^ 30)⟩
  · exact ⟨.inr "a", rfl, pr_lit (s := "a") (by decide), by decide⟩
structure ItOk (v : Val) : Prop where
  ok : VOk v
  d : vdepth v ≤ 11
  p : vparts v ≤ 4
theorem vpL_le {n : Nat} : ∀ {vs : List Val}, (∀ v ∈ vs, vparts v ≤ n) → vpartsL vs ≤ n * vs.length
  | [], _ => Nat.le_refl _
  | v :: vs, h => by
    have h1 := h v (by simp)
    have h2 := vpL_le (n := n) (vs := vs) fun w hw => h w (List.mem_cons_of_mem _ hw)
    show vparts v + vpartsL vs ≤ n * (vs.length + 1)
    rw [Nat.mul_add]; omega
/-! ### digits of keys -/
def keyS : Key → Str
  | .inl n => Str.ofString (toString n)
  | .inr z => z
theorem digK_no1 {l : List Nat} (h : ¬ (body l ≠ [] ∧ (body l).all isDg = true)) : digK l = false := by
  unfold digK
  by_cases h1 : body l = []
  · simp [h1]
  · have : (body l).all isDg = false := Bool.eq_false_iff.mpr fun z => h ⟨h1, z⟩
    simp [this]
theorem digK_no2 {l : List Nat} (h : 30 < (body l).length) : digK l = false := by
  unfold digK
  rw [decide_eq_false (by omega : ¬ (body l).length ≤ 30)]; simp
theorem digK_yes {l : List Nat} (h : body l ≠ [] ∧ (body l).all isDg = true) (h2 : (body l).length ≤ 30) : digK l = (decide (l = [48]) || decide ((body l).head? ≠ some 48)) := by
  unfold digK
  rw [decide_eq_true h.1, decide_eq_true h2, h.2]; rfl
theorem dig_fin {z y : Str} {Q : QV} {S : Sto} (hy : TL.tl y = body (TL.tl z)) (h1 : body (TL.tl z) ≠ [] ∧ (body (TL.tl z)).all isDg = true) (h2 : (body (TL.tl z)).length ≤ 30) (hl : z.length ≤ 300) (hq : Q (.bl (digK (TL.tl z))) S) :
    if z = Str.ofString "0" then Q (Tr.bl true) S else y.length ≤ sizeLine ∧ ∃ c, atI y.cps.toList 0 = some c ∧ Q (Tr.bl !decide (({ cps := #[c] } : Str) = Str.ofString "0")) S := by
  rw [digK_yes h1 h2] at hq
  have ly : y.length = (body (TL.tl z)).length := by rw [TL.len_tl, hy]
  by_cases h3 : z = Str.ofString "0"
  · rw [if_pos h3]
    rw [decide_eq_true ((str_eq_iff (z := z) (s := "0") (l := [48]) (by decide +kernel)).mp h3), Bool.true_or] at hq
    exact hq
  · rw [if_neg h3]
    refine ⟨Nat.le_of_lt (szn (by omega)), ?_⟩
    obtain ⟨c, e1, e2⟩ := atI_head h1.1
    rw [← hy] at e1
    refine ⟨c, e1, ?_⟩
    rw [decide_eq_false (fun z => h3 ((str_eq_iff (s := "0") (l := [48]) (by decide +kernel)).mpr z)), Bool.false_or, e2] at hq
    have e3 : (!decide (({ cps := #[c] } : Str) = Str.ofString "0")) = decide (some c ≠ some 48) := by
      rw [one_eq (c := c) (d := 48) (by decide +kernel)]
      by_cases h : c = 48 <;> simp [h]
    rw [e3]; exact hq
def digKey : Key → Bool
  | .inl _ => false
  | .inr z => digK (TL.tl z)
def longV : Val → Bool
  | .int n => decide (10 ^ 15 ≤ n.natAbs)
  | _ => false
theorem long_len {n : Nat} : (15 : Int) < ((Str.ofString (toString (n : Int))).length : Int) ↔ 10 ^ 15 ≤ n := by
  have e : (Str.ofString (toString (n : Int))).length = (TL.numL n).length := by rw [TL.len_tl, TL.tl_num]
  rw [e]
  constructor
  · intro h
    apply Nat.le_of_not_lt
    intro z
    have := TL.numL_len (k := 15) (by decide) z
    omega
  · intro h
    have h1 := KB.digitsVal_lt _ (TL.numL_digits n)
    rw [TL.numL_val] at h1
    apply Int.lt_of_not_ge
    intro z
    have h2 : 10 ^ (TL.numL n).length ≤ 10 ^ 15 := Nat.pow_le_pow_right (by decide) (by omega)
    omega
/-! ### guards -/
def isInl : Key → Bool
  | .inl _ => true
  | .inr _ => false
def isNonV : Val → Bool
  | .non => true
  | _ => false
def harmV (g : Str) (ks : List Key) (vs : List Val) : Bool :=
  if g = "numbers" then ks.any isInl else if g = "digits" then ks.any digKey else if g = "doubles" then ks.any (fun k => isInl k && hasK (.inr (keyS k)) ks) else if g = "nulls" then vs.any isNonV else false
mutual
def clearV (g : Str) : Val → Bool
  | .lst vs => !decide (g = "lists") && clearVL g vs
  | .tup vs => !decide (g = "tuples") && clearVL g vs
  | .tab ks vs => !harmV g ks vs && clearVL g vs
  | .int n => !decide (g = "long") || !longV (.int n)
  | .non => true
  | .bl _ => true
  | .str _ => true
def clearVL (g : Str) : List Val → Bool
  | [] => true
  | v :: vs => clearV g v && clearVL g vs
end
theorem clearVL_all (g : Str) : ∀ vs, clearVL g vs = vs.all (clearV g)
  | [] => rfl
  | v :: vs => by rw [clearVL, clearVL_all g vs, List.all_cons]
def guardsL : List Str := ["numbers", "digits", "doubles", "tuples", "lists", "nulls", "long"]
theorem keyS_ok {k : Key} (h : KOk k) : KOk (.inr (keyS k)) := by
  cases k with
  | inl n => exact ⟨pr_int n, Nat.le_trans (len_int (k := 30) (by decide) h) (by decide)⟩
  | inr z => exact h
theorem ne_anyF {α β : Type} {l : List α} {b : α → Bool} {f : α → β} : ((l.filter b).map f).isEmpty = !(l.any b) := by
  rw [List.isEmpty_map]
  cases h : l.any b with
  | true =>
    obtain ⟨x, hx, e⟩ := List.any_eq_true.mp h
    rw [Bool.not_true, ← Bool.not_eq_true, List.isEmpty_iff, List.filter_eq_nil_iff]
    exact fun z => z x hx e
  | false =>
    rw [Bool.not_false, List.isEmpty_iff, List.filter_eq_nil_iff]
    intro x hx e
    rw [List.any_eq_true.mpr ⟨x, hx, e⟩] at h; cases h
/-! ### conditions that are drawn -/
def CndOk (PK : Key → Prop) (PL : Str → Prop) : Cnd → Prop
  | .kind z => z ∈ kindsL
  | .equals k => KOk k
  | .size n => 0 ≤ n ∧ n ≤ 4
  | .has k => PK k
  | .item k l => PK k ∧ PL l
  | .before k j => PK k ∧ PK j
  | .first l => PL l
  | .every l => PL l
  | .some l => PL l
  | .both c d => CndOk PK PL c ∧ CndOk PK PL d
  | .either c d => CndOk PK PL c ∧ CndOk PK PL d
  | .inv c => CndOk PK PL c
theorem CndOk.cok {PK : Key → Prop} {PL : Str → Prop} {a : CA} (fa : ∀ τ, ∃ C, a.adr τ = Option.some C) (hk : ∀ k, PK k → KOk k) (hl : ∀ l, PL l → LOk l) : ∀ {c : Cnd}, CndOk PK PL c → COk a c
  | .kind _, h => ⟨fa _, h⟩
  | .equals _, h => ⟨fa _, h⟩
  | .size _, h => ⟨fa _, h⟩
  | .has _, h => ⟨fa _, hk _ h⟩
  | .item _ _, h => ⟨fa _, hk _ h.1, hl _ h.2⟩
  | .before _ _, h => ⟨fa _, hk _ h.1, hk _ h.2⟩
  | .first _, h => ⟨fa _, hl _ h⟩
  | .every _, h => ⟨fa _, hl _ h⟩
  | .some _, h => ⟨fa _, hl _ h⟩
  | .both _ _, h => ⟨fa _, h.1.cok fa hk hl, h.2.cok fa hk hl⟩
  | .either _ _, h => ⟨fa _, h.1.cok fa hk hl, h.2.cok fa hk hl⟩
  | .inv _, h => ⟨fa _, CndOk.cok fa hk hl h⟩
theorem CndOk.labs {PK : Key → Prop} {PL : Str → Prop} : ∀ {c : Cnd}, CndOk PK PL c → ∀ l ∈ (leavesC c).flatMap ownL, PL l
  | .kind _, h, l, m => by cases m
  | .equals _, h, l, m => by cases m
  | .size _, h, l, m => by cases m
  | .has _, h, l, m => by cases m
  | .item _ z, h, l, m => by rw [List.mem_singleton.mp (show l ∈ [z] from m)]; exact h.2
  | .before _ _, h, l, m => by cases m
  | .first z, h, l, m => by rw [List.mem_singleton.mp (show l ∈ [z] from m)]; exact h
  | .every z, h, l, m => by rw [List.mem_singleton.mp (show l ∈ [z] from m)]; exact h
  | .some z, h, l, m => by rw [List.mem_singleton.mp (show l ∈ [z] from m)]; exact h
  | .both c d, h, l, m => by
    rw [show leavesC (.both c d) = leavesC c ++ leavesC d from rfl, List.flatMap_append] at m
    rcases List.mem_append.mp m with m | m
    · exact h.1.labs l m
    · exact h.2.labs l m
  | .either c d, h, l, m => by
    rw [show leavesC (.either c d) = leavesC c ++ leavesC d from rfl, List.flatMap_append] at m
    rcases List.mem_append.mp m with m | m
    · exact h.1.labs l m
    · exact h.2.labs l m
  | .inv c, h, l, m => CndOk.labs (c := c) h l m
/-- a condition that mentions only labels that are there -/
theorem CndOk.mis {PK : Key → Prop} {rs : List (Str × Cnd)} {c : Cnd} (h : CndOk PK (· ∈ namesL rs) c) : misL rs c = none := by
  unfold misL labL
  rw [List.find?_eq_none]
  intro l hl
  rcases nub_mem.mp hl with hl | hl
  · cases hl
  · simpa using h.labs l hl
theorem cut_mem {xs : List Tr} {lo hi : Option Int} {x : Tr} (h : x ∈ cutT xs lo hi) : x ∈ xs := by
  unfold cutT at h
  exact List.mem_of_mem_drop (List.mem_of_mem_take h)
theorem ob_go {K : PySem.W.Frag} {op : Operator} {a : CA} {sp : CT → TSp} {c d : Cnd} {S S2 : Sto} {F : TSp → Prop} (oc : COk a c) (od : COk a d) (ob : ∀ τ τ2 C D, a.adr τ = Option.some C → a.adr τ2 = Option.some D → OwnBin K op C D) (h : F (sp c.tag)) :
    ∃ C, (∃ fs xs, vw S (cT a c) = .ins C fs xs) ∧ ∃ D, (∃ fs xs, vw S2 (cT a d) = .ins D fs xs) ∧ OwnBin K op C D ∧ ∃ t, vm a sp C t ∧ F t := by
  obtain ⟨C, fs, xs, h1, h2, _⟩ := cT_ins oc
  obtain ⟨D, gs, ys, g1, g2, _⟩ := cT_ins od
  exact ⟨C, ⟨fs, xs, by rw [h2]; rfl⟩, D, ⟨gs, ys, by rw [g2]; rfl⟩, ob _ _ _ _ h1 g1, sp c.tag, ⟨_, h1, rfl⟩, h⟩
theorem inv_go {a : CA} {sp : CT → TSp} {c : Cnd} {S : Sto} {F : TSp → Prop} (oc : COk a c) (h : F (sp c.tag)) :
    ∃ C, (∃ fs xs, vw S (cT a c) = .ins C fs xs) ∧ ∃ t, vm a sp C t ∧ F t := by
  obtain ⟨C, fs, xs, h1, h2, _⟩ := cT_ins oc
  exact ⟨C, ⟨fs, xs, by rw [h2]; rfl⟩, sp c.tag, ⟨_, h1, rfl⟩, h⟩
/-- a comprehension over range(n), n as many as the things of a list -/
theorem lc_ix {α : Type} {ok : Sto → Prop} {j : Nat} {te : UE} {ρ : Rho} {Q : QV} {S : Sto} (l : List α) (g : α → Tr) (hok : ok S) (hl : l.length ≤ 100000)
    (h : ∀ (i : Nat) (a : α), l[i]? = some a → ∀ (N1 : QV), N1 (g a) S → te (ρ.set j (some (.int i))) S N1 X0) (hq : Q (.lst (l.map g)) S) : uLcL ok (.nm j) uYes te ρ Q (rngT 0 l.length) [] S := by
  refine lc_inv _ (fun i acc S' => acc = (l.take i).map g ∧ S' = S) ?_ ?_ ⟨rfl, rfl⟩
  · rintro i x acc S' N hx ⟨rfl, rfl⟩ hN
    obtain ⟨rfl, hi⟩ := rng_at hx
    have ea : l[i]? = some l[i] := List.getElem?_eq_getElem hi
    have et : l.take (i + 1) = l.take i ++ [l[i]] := by rw [List.take_add_one, ea]; rfl
    refine ⟨hok, _, rfl, h i l[i] ea _ ⟨szn (by rw [List.length_map, List.length_take]; omega), hN _ _ ⟨by rw [et, List.map_append]; rfl, rfl⟩⟩⟩
  · rintro acc S' ⟨rfl, rfl⟩
    rw [rngT_len, List.take_of_length_le (Nat.le_refl _)]
    exact ⟨hok, hq⟩
/-! lists of lists of truths -/
def bll (L : List (List Bool)) : Tr := .lst (L.map fun l => .lst (l.map .bl))
theorem toDs_bls : ∀ l : List Bool, toDs (l.map Tr.bl) = some (l.map PyData.bool)
  | [] => rfl
  | b :: l => by
    have := toDs_bls l
    rw [List.map_cons, List.map_cons]
    unfold toDs
    rw [this]; rfl
theorem toDs_blls : ∀ L : List (List Bool), toDs (L.map fun l => Tr.lst (l.map .bl)) = some (L.map fun l => PyData.list (l.map .bool))
  | [] => rfl
  | l :: L => by
    have := toDs_blls L
    rw [List.map_cons, List.map_cons]
    unfold toDs
    rw [this, show toD (.lst (l.map Tr.bl)) = some (.list (l.map PyData.bool)) by unfold toD; rw [toDs_bls]; rfl]
theorem lay_bls : ∀ l : List Bool, PyData.canLayAll0 (l.map PyData.bool) = true
  | [] => rfl
  | b :: l => by rw [List.map_cons]; show (true && _) = true; rw [Bool.true_and]; exact lay_bls l
theorem lay_blls : ∀ L : List (List Bool), PyData.canLayAll0 (L.map fun l => PyData.list (l.map .bool)) = true
  | [] => rfl
  | l :: L => by
    rw [List.map_cons]
    show (PyData.canLayAll0 (l.map PyData.bool) && _) = true
    rw [lay_bls, Bool.true_and]; exact lay_blls L
theorem dep_bls : ∀ l : List Bool, PyData.depthAll (l.map PyData.bool) ≤ 1
  | [] => by decide
  | b :: l => by
    have := dep_bls l
    rw [List.map_cons]; unfold PyData.depthAll
    have e : (PyData.bool b).depth ≤ 1 := by first | (show 1 ≤ 1; decide) | (show 0 ≤ 1; decide) | simp [PyData.depth]
    omega
theorem dep_blls : ∀ L : List (List Bool), PyData.depthAll (L.map fun l => PyData.list (l.map .bool)) ≤ 3
  | [] => by show 0 ≤ 3; decide
  | l :: L => by
    have := dep_blls L
    have h := dep_bls l
    rw [List.map_cons]; unfold PyData.depthAll
    have e : (PyData.list (l.map .bool)).depth ≤ 3 := by unfold PyData.depth; omega
    omega
theorem eqv_bls : ∀ l : List Bool, PyData.eqvAll (l.map PyData.bool) (l.map PyData.bool) = true
  | [] => rfl
  | b :: l => by
    rw [List.map_cons]; unfold PyData.eqvAll
    rw [eqv_bls l]; cases b <;> rfl
theorem eqv_blls : ∀ L : List (List Bool), PyData.eqvAll (L.map fun l => PyData.list (l.map .bool)) (L.map fun l => PyData.list (l.map .bool)) = true
  | [] => rfl
  | l :: L => by
    rw [List.map_cons]; unfold PyData.eqvAll
    rw [eqv_blls L, show PyData.eqv (.list (l.map PyData.bool)) (.list (l.map PyData.bool)) = true by unfold PyData.eqv; exact eqv_bls l]; rfl
theorem bll_eq {n : Bool} (L : List (List Bool)) : gEq n (bll L) (bll L) (.bl (n ^^ true)) := by
  have d : toD (bll L) = some (.list (L.map fun l => PyData.list (l.map .bool))) := by unfold bll toD; rw [toDs_blls]; rfl
  have s : SeqAt.shaped (.list (L.map fun l => PyData.list (l.map .bool))) = true := by
    show (PyData.canLayAll0 _ && decide (PyData.depthAll _ + 1 ≤ 64)) = true
    have := dep_blls L
    rw [lay_blls, decide_eq_true (by omega)]; rfl
  refine .inr ⟨rfl, _, _, d, d, s, s, ?_⟩
  show _ = Tr.bl (n ^^ PyData.eqvAll _ _)
  rw [eqv_blls]
theorem CndOk.imp {PK PK2 : Key → Prop} {PL PL2 : Str → Prop} (hk : ∀ k, PK k → PK2 k) (hl : ∀ l, PL l → PL2 l) : ∀ {c : Cnd}, CndOk PK PL c → CndOk PK2 PL2 c
  | .kind _, h => h
  | .equals _, h => h
  | .size _, h => h
  | .has _, h => hk _ h
  | .item _ _, h => ⟨hk _ h.1, hl _ h.2⟩
  | .before _ _, h => ⟨hk _ h.1, hk _ h.2⟩
  | .first _, h => hl _ h
  | .every _, h => hl _ h
  | .some _, h => hl _ h
  | .both _ _, h => ⟨h.1.imp hk hl, h.2.imp hk hl⟩
  | .either _ _, h => ⟨h.1.imp hk hl, h.2.imp hk hl⟩
  | .inv c, h => CndOk.imp (c := c) hk hl h
def keysW : Val → List Key
  | .tab ks _ => ks
  | _ => []
/-- a value with the labels of its items -/
structure MnOk (v : Val) (ls : List Str) : Prop where
  ov : VOk v
  len : isBox v = true → ls.length = (vitems v).length
  lab : ∀ l ∈ ls, LOk l
  big : vparts v ≤ 50000
theorem str_eqs {xs ys : List Str} {n : Bool} {z : Tr} (h : ∀ l ∈ xs, LOk l) (g : ∀ l ∈ ys, LOk l) : gEq n (.lst (xs.map .str)) (.lst (ys.map .str)) z = (z = .bl (n ^^ decide (xs = ys))) := by
  have e : ∀ l : List Str, l.map Tr.str = (l.map (Sum.inr : Str → Key)).map kT := fun l => by rw [List.map_map]; rfl
  rw [e, e, kT_eqs (fun k hk => by obtain ⟨l, hl, rfl⟩ := List.mem_map.mp hk; exact h l hl) (fun k hk => by obtain ⟨l, hl, rfl⟩ := List.mem_map.mp hk; exact g l hl)]
  have : (xs.map (Sum.inr : Str → Key) = ys.map Sum.inr) ↔ xs = ys := List.map_inj_right (fun a b h => Sum.inr.inj h)
  rw [decide_eq_decide.mpr this]
end KQ
namespace KQ
open PySem PySem.Spec PyProof.Rows L2 TL KB
/-! ### raw values -/
inductive RawV where
  | non
  | bl (b : Bool)
  | int (n : Int)
  | str (z : Str)
  | row (xs : List RawV)
  | tab (ns : List Str) (xs : List RawV)
mutual
def rT : RawV → Tr
  | .non => .non
  | .bl b => .bl b
  | .int n => .int n
  | .str z => .str z
  | .row xs => .tup [.str "row", .lst (rTL xs)]
  | .tab ns xs => .tup [.str "table", .lst (rTP ns xs)]
def rTL : List RawV → List Tr
  | [] => []
  | x :: xs => rT x :: rTL xs
def rTP : List Str → List RawV → List Tr
  | n :: ns, x :: xs => .tup [.str n, rT x] :: rTP ns xs
  | _, _ => []
end
theorem rTL_map : ∀ xs : List RawV, rTL xs = xs.map rT
  | [] => rfl
  | x :: xs => by rw [rTL, rTL_map xs]; rfl
theorem rTP_zip : ∀ (ns : List Str) (xs : List RawV), rTP ns xs = (ns.zip xs).map fun q => Tr.tup [.str q.1, rT q.2]
  | [], [] => by rw [rTP]; rfl; all_goals (intros; simp_all)
  | [], _ :: _ => by rw [rTP]; rfl; all_goals (intros; simp_all)
  | _ :: _, [] => by rw [rTP]; rfl; all_goals (intros; simp_all)
  | n :: ns, x :: xs => by rw [rTP, rTP_zip ns xs]; rfl
mutual
def rdepth : RawV → Nat
  | .row xs => 1 + rdepthL xs
  | .tab _ xs => 1 + rdepthL xs
  | .non => 0
  | .bl _ => 0
  | .int _ => 0
  | .str _ => 0
def rdepthL : List RawV → Nat
  | [] => 0
  | x :: xs => max (rdepth x) (rdepthL xs)
end
mutual
def rparts : RawV → Nat
  | .row xs => 1 + rpartsL xs
  | .tab _ xs => 1 + rpartsL xs
  | .non => 1
  | .bl _ => 1
  | .int _ => 1
  | .str _ => 1
def rpartsL : List RawV → Nat
  | [] => 0
  | x :: xs => rparts x + rpartsL xs
end
mutual
def ROk : RawV → Prop
  | .row xs => ROkL xs
  | .tab ns xs => ROkL xs ∧ ns.length = xs.length ∧ ∀ n ∈ ns, LOk n
  | .non => True
  | .bl _ => True
  | .int n => n.natAbs < 10 ^ 30
  | .str z => Pr z ∧ z.length ≤ 300
def ROkL : List RawV → Prop
  | [] => True
  | x :: xs => ROk x ∧ ROkL xs
end
/-- a path: indexes and keys -/
def pathT (p : List Key) : Tr := .tup (p.map kT)
/-! ### the reader -/
structure Ro where
  same : Str
  dig : Str
  lists : Str
  nulls : Str
/-- an object with a reader's options -/
structure RdO (o : Tr) (C : Addr) (r : Ro) (fs : List Str) (xs : List Tr) : Prop where
  eq : o = .ins C fs xs
  same : fget "same_keys" fs xs = some (.str r.same)
  dig : fget "digit_keys" fs xs = some (.str r.dig)
  lists : fget "lists" fs xs = some (.str r.lists)
  nulls : fget "null_items" fs xs = some (.str r.nulls)
  no : ∀ m, m ∉ (["number_keys", "tuples", "nulls", "double_keys", "order", "long_numbers", "same_keys", "digit_keys", "lists", "null_items"] : List Str) → fget m fs xs = none
/-- the key of a string -/
def bkey (o : Ro) (z : Str) : Key := if o.dig = "number" ∧ digK (TL.tl z) = true then .inl ((PySem.intText? z).getD 0) else .inr z
/-- the entries that are kept, with their keys -/
def bfin (o : Ro) (ps : List (Key × Val)) : Val := tabV ((ps.filter fun q => !isNonV q.2 || decide (o.nulls = "keep")).map fun q => (bkey o (keyS q.1), q.2))
mutual
def bldR (o : Ro) : RawV → List Key → Except (List Key) Val
  | .non, _ => .ok .non
  | .bl b, _ => .ok (.bl b)
  | .int n, _ => .ok (.int n)
  | .str z, _ => .ok (.str z)
  | .row xs, p => match bldL o xs 0 p with
    | .error e => .error e
    | .ok vs => .ok (if o.lists = "tuple" then .tup vs else .lst vs)
  | .tab ns xs, p => match bldT o ns xs p [] with
    | .error e => .error e
    | .ok ps => .ok (bfin o ps)
def bldL (o : Ro) : List RawV → Nat → List Key → Except (List Key) (List Val)
  | [], _, _ => .ok []
  | x :: xs, i, p => match bldR o x (p ++ [.inl i]) with
    | .error e => .error e
    | .ok v => match bldL o xs (i + 1) p with
      | .error e => .error e
      | .ok vs => .ok (v :: vs)
def bldT (o : Ro) : List Str → List RawV → List Key → List (Key × Val) → Except (List Key) (List (Key × Val))
  | n :: ns, x :: xs, p, acc =>
    if hasK (.inr n) (pK acc) = true ∧ o.same = "refuse" then .error (p ++ [.inr n])
    else match bldR o x (p ++ [.inr n]) with
      | .error e => .error e
      | .ok v => bldT o ns xs p (if hasK (.inr n) (pK acc) = false ∨ o.same = "last" then putP (.inr n) v acc else acc)
  | _, _, _, acc => .ok acc
end
/-! ### what is built -/
theorem bkey_ok {o : Ro} {z : Str} (h : LOk z) : KOk (bkey o z) := by
  unfold bkey
  split
  · rename_i hd
    obtain ⟨n, e, _, _, e4⟩ := digK_int hd.2
    rw [e]
    exact e4
  · exact h
theorem bkey_inj {o : Ro} {z y : Str} (h : bkey o z = bkey o y) : z = y := by
  unfold bkey at h
  split at h
  · rename_i h1
    obtain ⟨n, e1, e2, _⟩ := digK_int h1.2
    split at h
    · rename_i h2
      obtain ⟨m, f1, f2, _⟩ := digK_int h2.2
      rw [e1, f1] at h
      have : n = m := Sum.inl.inj h
      rw [← e2, ← f2, this]
    · cases h
  · split at h
    · cases h
    · exact Sum.inr.inj h
theorem putP_keys {k : Key} {v : Val} {ps : List (Key × Val)} : pK (putP k v ps) = kputN k (pK ps) := by
  unfold putP kputN
  split
  · unfold pK; rw [List.map_map]; rfl
  · unfold pK; rw [List.map_append]; rfl
theorem kmap_vals {D : Addr} {k : Key} {v : Val} : ∀ {ps : List (Key × Val)}, (pK ps).Nodup → kmap k (vT D v) (pK ps) (vTL D (pV ps)) = vTL D (pV (ps.map fun p => (p.1, if p.1 = k then v else p.2)))
  | [], _ => rfl
  | q :: ps, nd => by
    have nd' := List.nodup_cons.mp (show (q.1 :: pK ps).Nodup from nd)
    have ih := kmap_vals (D := D) (k := k) (v := v) (ps := ps) nd'.2
    show kmap k (vT D v) (q.1 :: pK ps) (vT D q.2 :: vTL D (pV ps)) = vT D (if q.1 = k then v else q.2) :: vTL D (pV (ps.map _))
    rw [kmap, ih]
    by_cases h : q.1 = k
    · simp [h]
    · simp [h]
theorem putP_vals {D : Addr} {k : Key} {v : Val} {ps : List (Key × Val)} (nd : (pK ps).Nodup) : vTL D (pV (putP k v ps)) = kputX k (vT D v) (pK ps) (vTL D (pV ps)) := by
  unfold putP kputX
  split
  · exact (kmap_vals nd).symm
  · unfold pV; rw [List.map_append, List.map_cons, List.map_nil, vTL_snoc]
theorem putP_len {k : Key} {v : Val} {ps : List (Key × Val)} : (putP k v ps).length ≤ ps.length + 1 := by
  unfold putP
  split
  · rw [List.length_map]; omega
  · rw [List.length_append, List.length_singleton]; omega
structure AccOk (d m : Nat) (ps : List (Key × Val)) : Prop where
  nd : (pK ps).Nodup
  nm : ∀ q ∈ ps, ∃ z, q.1 = .inr z ∧ LOk z
  ok : ∀ q ∈ ps, VOk q.2 ∧ vdepth q.2 ≤ d
  m : vpartsL (pV ps) ≤ m
theorem parts_map {k : Key} {v : Val} : ∀ (ps : List (Key × Val)), (pK ps).Nodup → vpartsL (pV (ps.map fun p => (p.1, if p.1 = k then v else p.2))) ≤ vpartsL (pV ps) + vparts v
  | [], _ => Nat.zero_le _
  | q :: ps, nd => by
    have nd' := List.nodup_cons.mp (show (q.1 :: pK ps).Nodup from nd)
    show vparts (if q.1 = k then v else q.2) + vpartsL (pV (ps.map _)) ≤ vparts q.2 + vpartsL (pV ps) + vparts v
    by_cases h : q.1 = k
    · have e : ps.map (fun p : Key × Val => (p.1, if p.1 = k then v else p.2)) = ps := by
        have : ∀ p ∈ ps, (fun p : Key × Val => (p.1, if p.1 = k then v else p.2)) p = id p := fun p hp => by
          have hn : p.1 ≠ k := fun z => nd'.1 (by rw [h, ← z]; exact List.mem_map.mpr ⟨p, hp, rfl⟩)
          show (p.1, if p.1 = k then v else p.2) = p
          rw [if_neg hn]
        rw [List.map_congr_left this, List.map_id]
      rw [e, if_pos h]; omega
    · have := parts_map (k := k) (v := v) ps nd'.2
      rw [if_neg h]; omega
theorem AccOk.put {d m : Nat} {ps : List (Key × Val)} {z : Str} {v : Val} (h : AccOk d m ps) (hz : LOk z) (hv : VOk v) {e n : Nat} (hd : d ≤ e) (hvd : vdepth v ≤ e) (hn : m + vparts v ≤ n) : AccOk e n (putP (.inr z) v ps) := by
  refine ⟨?_, fun q hq => ?_, fun q hq => ?_, ?_⟩
  · rw [putP_keys]
    unfold kputN
    split
    · exact h.nd
    · rename_i hh; exact nodup_put h.nd (by simpa using hh)
  · unfold putP at hq
    split at hq
    · obtain ⟨p, hp, rfl⟩ := List.mem_map.mp hq; exact h.nm p hp
    · rcases List.mem_append.mp hq with hq | hq
      · exact h.nm q hq
      · rw [List.mem_singleton.mp hq]; exact ⟨z, rfl, hz⟩
  · unfold putP at hq
    split at hq
    · obtain ⟨p, hp, rfl⟩ := List.mem_map.mp hq
      show VOk (if p.1 = _ then v else p.2) ∧ vdepth (if p.1 = _ then v else p.2) ≤ e
      split
      · exact ⟨hv, hvd⟩
      · exact ⟨(h.ok p hp).1, Nat.le_trans (h.ok p hp).2 hd⟩
    · rcases List.mem_append.mp hq with hq | hq
      · exact ⟨(h.ok q hq).1, Nat.le_trans (h.ok q hq).2 hd⟩
      · rw [List.mem_singleton.mp hq]; exact ⟨hv, hvd⟩
  · have := h.m
    unfold putP
    split
    · have := parts_map (k := .inr z) (v := v) ps h.nd; omega
    · have e : pV (ps ++ [((.inr z : Key), v)]) = pV ps ++ [v] := by unfold pV; rw [List.map_append]; rfl
      rw [e, vpL_snoc]; omega
theorem AccOk.up {d m e n : Nat} {ps : List (Key × Val)} (h : AccOk d m ps) (hd : d ≤ e) (hn : m ≤ n) : AccOk e n ps := ⟨h.nd, h.nm, fun q hq => ⟨(h.ok q hq).1, Nat.le_trans (h.ok q hq).2 hd⟩, Nat.le_trans h.m hn⟩
theorem AccOk.nil {d m : Nat} : AccOk d m [] := ⟨List.nodup_nil, (fun _ h => nomatch h), (fun _ h => nomatch h), Nat.zero_le _⟩
theorem parts_sub {f : Key × Val → Bool} {g : Key × Val → Key} : ∀ ps : List (Key × Val), vpartsL (pV ((ps.filter f).map fun q => (g q, q.2))) ≤ vpartsL (pV ps)
  | [] => Nat.le_refl _
  | q :: ps => by
    have ih := parts_sub (f := f) (g := g) ps
    show _ ≤ vparts q.2 + vpartsL (pV ps)
    rw [List.filter_cons]
    split
    · show vparts q.2 + vpartsL (pV ((ps.filter f).map _)) ≤ _; omega
    · omega
theorem bfin_ent {o : Ro} {d m : Nat} {ps : List (Key × Val)} (h : AccOk d m ps) :
    (pK ((ps.filter fun q => !isNonV q.2 || decide (o.nulls = "keep")).map fun q => (bkey o (keyS q.1), q.2))).Nodup ∧ VOk (bfin o ps) ∧ vdepth (bfin o ps) ≤ 1 + d ∧ vparts (bfin o ps) ≤ 1 + m := by
  have nd : (pK ((ps.filter fun q => !isNonV q.2 || decide (o.nulls = "keep")).map fun q => (bkey o (keyS q.1), q.2))).Nodup := by
    have e : pK ((ps.filter fun q => !isNonV q.2 || decide (o.nulls = "keep")).map fun q => (bkey o (keyS q.1), q.2)) = (pK (ps.filter fun q => !isNonV q.2 || decide (o.nulls = "keep"))).map fun k => bkey o (keyS k) := by
      unfold pK; rw [List.map_map, List.map_map]; rfl
    rw [e]
    have nd2 : (pK (ps.filter fun q => !isNonV q.2 || decide (o.nulls = "keep"))).Nodup := h.nd.sublist (List.Sublist.map _ List.filter_sublist)
    refine List.Pairwise.map _ (fun a b (x : (a ≠ b ∧ (∃ z, a = Sum.inr z)) ∧ ∃ z, b = Sum.inr z) y => ?_) (List.Pairwise.imp_of_mem (fun {a b} ha hb ne => ⟨⟨ne, ?_⟩, ?_⟩) nd2)
    · obtain ⟨⟨x1, z, rfl⟩, w, rfl⟩ := x
      exact x1 (by rw [show z = w from bkey_inj y])
    · obtain ⟨q, hq, e1⟩ := List.mem_map.mp ha
      obtain ⟨z, e, _⟩ := h.nm q (List.mem_filter.mp hq).1
      exact ⟨z, by rw [← e1]; exact e⟩
    · obtain ⟨q, hq, e1⟩ := List.mem_map.mp hb
      obtain ⟨z, e, _⟩ := h.nm q (List.mem_filter.mp hq).1
      exact ⟨z, by rw [← e1]; exact e⟩
  refine ⟨nd, ⟨okL_memN fun v hv => ?_, by unfold pK pV; simp only [List.length_map], fun k hk => ?_, nd⟩, Nat.add_le_add_left (vdL_le fun v hv => ?_) 1, Nat.add_le_add_left (Nat.le_trans (parts_sub ps) h.m) 1⟩
  · obtain ⟨q, hq, rfl⟩ := List.mem_map.mp hv
    obtain ⟨p, hp, rfl⟩ := List.mem_map.mp hq
    exact (h.ok p (List.mem_filter.mp hp).1).1
  · obtain ⟨q, hq, rfl⟩ := List.mem_map.mp hk
    obtain ⟨p, hp, rfl⟩ := List.mem_map.mp hq
    obtain ⟨z, e, hz⟩ := h.nm p (List.mem_filter.mp hp).1
    show KOk (bkey o (keyS p.1))
    rw [e]
    exact bkey_ok hz
  · obtain ⟨q, hq, rfl⟩ := List.mem_map.mp hv
    obtain ⟨p, hp, rfl⟩ := List.mem_map.mp hq
    exact (h.ok p (List.mem_filter.mp hp).1).2
mutual
theorem bldR_ok (o : Ro) : ∀ (w : RawV) (p : List Key) (v : Val), ROk w → bldR o w p = .ok v → VOk v ∧ vdepth v ≤ rdepth w ∧ vparts v ≤ rparts w
  | .non, p, v, h, e => by cases e; exact ⟨trivial, Nat.le_refl _, Nat.le_refl _⟩
  | .bl b, p, v, h, e => by cases e; exact ⟨trivial, Nat.le_refl _, Nat.le_refl _⟩
  | .int n, p, v, h, e => by cases e; exact ⟨h, Nat.le_refl _, Nat.le_refl _⟩
  | .str z, p, v, h, e => by cases e; exact ⟨h, Nat.le_refl _, Nat.le_refl _⟩
  | .row xs, p, v, h, e => by
    rw [bldR] at e
    split at e
    · cases e
    · rename_i vs hv
      obtain ⟨h1, h2, h3⟩ := bldL_ok o xs 0 p vs h hv
      cases e
      split
      · exact ⟨h1, Nat.add_le_add_left h2 1, Nat.add_le_add_left h3 1⟩
      · exact ⟨h1, Nat.add_le_add_left h2 1, Nat.add_le_add_left h3 1⟩
  | .tab ns xs, p, v, h, e => by
    rw [bldR] at e
    split at e
    · cases e
    · rename_i ps hps
      have a := bldT_ok o ns xs p [] ps (d := 0) (m := 0) h.2.2 h.1 .nil hps
      obtain ⟨_, h1, h2, h3⟩ := bfin_ent (o := o) a
      cases e
      refine ⟨h1, ?_, ?_⟩
      · show _ ≤ 1 + rdepthL xs
        have : max 0 (rdepthL xs) = rdepthL xs := Nat.max_eq_right (Nat.zero_le _)
        omega
      · show _ ≤ 1 + rpartsL xs
        omega
theorem bldL_ok (o : Ro) : ∀ (xs : List RawV) (i : Nat) (p : List Key) (vs : List Val), ROkL xs → bldL o xs i p = .ok vs → VOkL vs ∧ vdepthL vs ≤ rdepthL xs ∧ vpartsL vs ≤ rpartsL xs
  | [], i, p, vs, h, e => by cases e; exact ⟨trivial, Nat.le_refl _, Nat.le_refl _⟩
  | x :: xs, i, p, vs, h, e => by
    rw [bldL] at e
    split at e
    · cases e
    · rename_i v hv
      split at e
      · cases e
      · rename_i us hu
        obtain ⟨a1, a2, a3⟩ := bldR_ok o x _ v h.1 hv
        obtain ⟨b1, b2, b3⟩ := bldL_ok o xs _ p us h.2 hu
        cases e
        refine ⟨⟨a1, b1⟩, ?_, ?_⟩
        · show max (vdepth v) (vdepthL us) ≤ max (rdepth x) (rdepthL xs); omega
        · show vparts v + vpartsL us ≤ rparts x + rpartsL xs; omega
theorem bldT_ok (o : Ro) : ∀ (ns : List Str) (xs : List RawV) (p : List Key) (acc ps : List (Key × Val)) {d m : Nat}, (∀ n ∈ ns, LOk n) → ROkL xs → AccOk d m acc → bldT o ns xs p acc = .ok ps → AccOk (max d (rdepthL xs)) (m + rpartsL xs) ps
  | n :: ns, x :: xs, p, acc, ps, d, m, hn, h, a, e => by
    rw [bldT] at e
    split at e
    · cases e
    · split at e
      · cases e
      · rename_i v hv
        obtain ⟨a1, a2, a3⟩ := bldR_ok o x _ v h.1 hv
        have key : AccOk (max d (rdepth x)) (m + rparts x) (if hasK (.inr n) (pK acc) = false ∨ o.same = "last" then putP (.inr n) v acc else acc) := by
          split
          · exact a.put (hn n (by simp)) a1 (by omega) (by omega) (by omega)
          · exact a.up (by omega) (by omega)
        have := bldT_ok o ns xs p _ ps (fun z hz => hn z (List.mem_cons_of_mem _ hz)) h.2 key e
        refine this.up ?_ ?_
        · show max (max d (rdepth x)) (rdepthL xs) ≤ max d (max (rdepth x) (rdepthL xs)); omega
        · show m + rparts x + rpartsL xs ≤ m + (rparts x + rpartsL xs); omega
  | [], xs, p, acc, ps, d, m, hn, h, a, e => by
    rw [bldT] at e
    · cases e; exact a.up (by omega) (by omega)
    · intros; simp_all
  | n :: ns, [], p, acc, ps, d, m, hn, h, a, e => by
    rw [bldT] at e
    · cases e; exact a.up (by omega) (by omega)
    · intros; simp_all
end
theorem rpartsL_ge : ∀ xs : List RawV, xs.length ≤ rpartsL xs
  | [] => Nat.le_refl _
  | x :: xs => by
    have := rpartsL_ge xs
    have h : 1 ≤ rparts x := by cases x <;> simp only [rparts] <;> omega
    show xs.length + 1 ≤ rparts x + rpartsL xs; omega
theorem rdepth_get : ∀ {xs : List RawV} {i : Nat} {w : RawV}, xs[i]? = some w → rdepth w ≤ rdepthL xs
  | [], i, w, h => by cases h
  | x :: xs, 0, w, h => by cases h; show rdepth x ≤ max (rdepth x) _; omega
  | x :: xs, i + 1, w, h => by
    have := rdepth_get (xs := xs) (i := i) (w := w) h
    show rdepth w ≤ max (rdepth x) (rdepthL xs); omega
theorem rparts_get : ∀ {xs : List RawV} {i : Nat} {w : RawV}, xs[i]? = some w → rparts w ≤ rpartsL xs
  | [], i, w, h => by cases h
  | x :: xs, 0, w, h => by cases h; show rparts x ≤ rparts x + _; omega
  | x :: xs, i + 1, w, h => by
    have := rparts_get (xs := xs) (i := i) (w := w) h
    show rparts w ≤ rparts x + rpartsL xs; omega
theorem ROkL.get : ∀ {xs : List RawV} {i : Nat} {w : RawV}, ROkL xs → xs[i]? = some w → ROk w
  | x :: xs, 0, w, h, e => by cases e; exact h.1
  | x :: xs, i + 1, w, h, e => ROkL.get (xs := xs) (i := i) h.2 e
theorem rpL_snoc : ∀ (xs : List RawV) (w : RawV), rpartsL (xs ++ [w]) = rpartsL xs + rparts w
  | [], w => by show rparts w + 0 = 0 + rparts w; omega
  | x :: xs, w => by
    have := rpL_snoc xs w
    show rparts x + rpartsL (xs ++ [w]) = rparts x + rpartsL xs + rparts w; omega
/-- a comprehension whose step may raise, by an invariant -/
theorem lcX_inv {ok : Sto → Prop} {p : Pat} {tt : UT} {te : UE} {ρ : Rho} {Q : QV} {X : QX} (xs : List Tr) (Pv : Nat → List Tr → Sto → Prop)
    (hs : ∀ (i : Nat) (x : Tr) (acc : List Tr) (S : Sto) (N : List Tr → Sto → Prop), xs[i]? = some x → Pv i acc S → (∀ acc' S', Pv (i + 1) acc' S' → N acc' S') → ok S ∧ ∃ ρ2, patR p x ρ = some ρ2 ∧ tt ρ2 S (fun b S3 => if b = true then te ρ2 S3 (fun y S4 => acc.length < sizeLine ∧ N (acc ++ [y]) S4) X else N acc S3) X0)
    (he : ∀ acc S, Pv xs.length acc S → ok S ∧ Q (.lst acc) S) {S : Sto} (h0 : Pv 0 [] S) : uLcXL ok p tt te ρ Q X xs [] S := by
  have key : ∀ (n i : Nat) (acc : List Tr) (S : Sto), i + n = xs.length → Pv i acc S → uLcXL ok p tt te ρ Q X (xs.drop i) acc S := by
    intro n
    induction n with
    | zero =>
      intro i acc S e h
      have e' : i = xs.length := by omega
      subst e'
      rw [List.drop_length]
      exact he acc S h
    | succ n ih =>
      intro i acc S e h
      have hl : i < xs.length := by omega
      rw [List.drop_eq_getElem_cons hl]
      exact hs i _ acc S _ (List.getElem?_eq_getElem hl) h fun acc' S' h' => ih (i + 1) acc' S' (by omega) h'
  exact key xs.length 0 [] S (by omega) h0
theorem rpL_take : ∀ (xs : List RawV) (n : Nat), rpartsL (xs.take n) ≤ rpartsL xs
  | [], n => by rw [List.take_nil]; exact Nat.le_refl _
  | x :: xs, 0 => Nat.zero_le _
  | x :: xs, n + 1 => by
    have := rpL_take xs n
    show rparts x + rpartsL (xs.take n) ≤ rparts x + rpartsL xs; omega
theorem isT_nonV {C : Addr} {v : Val} : isT (vT C v) .non = isNonV v := by
  cases v <;> rfl
/-! ### flat raw values: leaves and rows of leaves -/
def leafR : RawV → Prop
  | .row _ => False
  | .tab _ _ => False
  | _ => True
def flatR : RawV → Prop
  | .row xs => ∀ x ∈ xs, leafR x
  | .tab _ _ => False
  | _ => True
/-- what a flat one is built as -/
def leafVal : RawV → Val
  | .bl b => .bl b
  | .int n => .int n
  | .str z => .str z
  | _ => .non
def flatVal (o : Ro) : RawV → Val
  | .row xs => if o.lists = "tuple" then .tup (xs.map leafVal) else .lst (xs.map leafVal)
  | w => leafVal w
theorem leaf_bld {o : Ro} {w : RawV} {p : List Key} (h : leafR w) : bldR o w p = .ok (leafVal w) := by
  cases w <;> first | rfl | exact h.elim
theorem leafL_bld {o : Ro} : ∀ {xs : List RawV} {i : Nat} {p : List Key}, (∀ x ∈ xs, leafR x) → bldL o xs i p = .ok (xs.map leafVal)
  | [], _, _, _ => rfl
  | x :: xs, i, p, h => by
    rw [bldL, leaf_bld (h x (by simp)), leafL_bld fun y hy => h y (List.mem_cons_of_mem _ hy)]; rfl
theorem flat_bld {o : Ro} {w : RawV} {p : List Key} (h : flatR w) : bldR o w p = .ok (flatVal o w) := by
  cases w with
  | row xs => rw [bldR, leafL_bld h]; rfl
  | tab ns xs => exact h.elim
  | _ => rfl
theorem leaf_mT {w : RawV} (h : leafR w) : rT w = mT (leafVal w) := by
  cases w <;> first | rfl | exact h.elim
/-- the items of a name -/
def itemsR (n : Str) (ns : List Str) (ws : List RawV) : List RawV := ((ns.zip ws).filter fun q => decide (q.1 = n)).map (·.2)
/-- the one that counts -/
def oneR (o : Ro) (xs : List RawV) : RawV := if o.same = "last" then xs.getLastD .non else xs.headD .non
def accR (o : Ro) (ns : List Str) (ws : List RawV) : List (Key × Val) := (nub [] ns).map fun n => (.inr n, flatVal o (oneR o (itemsR n ns ws)))
theorem nub_nodup {α : Type} [DecidableEq α] : ∀ (acc xs : List α), acc.Nodup → (nub acc xs).Nodup
  | acc, [], h => h
  | acc, x :: xs, h => by
    unfold nub
    split
    · exact nub_nodup acc xs h
    · rename_i hx
      exact nub_nodup _ xs (List.nodup_append.mpr ⟨h, List.nodup_cons.mpr ⟨(fun h => nomatch h), List.nodup_nil⟩, fun a ha b hb e => hx (by rw [List.mem_singleton.mp hb] at e; rw [← e]; exact ha)⟩)
theorem items_snoc {n m : Str} {ns : List Str} {ws : List RawV} {w : RawV} (l : ns.length = ws.length) : itemsR n (ns ++ [m]) (ws ++ [w]) = itemsR n ns ws ++ (if m = n then [w] else []) := by
  unfold itemsR
  rw [List.zip_append l, List.filter_append, List.map_append]
  congr 1
  by_cases h : m = n <;> simp [h]
theorem acc_has {o : Ro} {n : Str} {ns : List Str} {ws : List RawV} : hasK (.inr n) (pK (accR o ns ws)) = true ↔ n ∈ ns := by
  rw [hasK_iff]
  unfold accR pK
  rw [List.map_map]
  constructor
  · intro h
    obtain ⟨m, hm, e⟩ := List.mem_map.mp h
    cases e
    exact (nub_mem.mp hm).resolve_left (fun h => nomatch h)
  · intro h
    exact List.mem_map.mpr ⟨n, nub_mem.mpr (.inr h), rfl⟩
theorem items_ne {n : Str} : ∀ {ns : List Str} {ws : List RawV}, ns.length = ws.length → n ∈ ns → itemsR n ns ws ≠ []
  | m :: ns, w :: ws, l, h => by
    unfold itemsR
    rw [List.zip_cons_cons, List.filter_cons]
    by_cases e : m = n
    · simp [e]
    · have hn : n ∈ ns := (List.mem_cons.mp h).resolve_left fun z => e z.symm
      have := items_ne (ns := ns) (ws := ws) (by simpa using l) hn
      unfold itemsR at this
      simpa [e] using this
theorem acc_snoc {o : Ro} {n : Str} {ns : List Str} {ws : List RawV} {w : RawV} (l : ns.length = ws.length) :
    accR o (ns ++ [n]) (ws ++ [w]) = if hasK (.inr n) (pK (accR o ns ws)) = false ∨ o.same = "last" then putP (.inr n) (flatVal o w) (accR o ns ws) else accR o ns ws := by
  by_cases hn : n ∈ ns
  · have hh : hasK (.inr n) (pK (accR o ns ws)) = true := acc_has.mpr hn
    have en : nub [] (ns ++ [n]) = nub [] ns := nub_in (nub_mem.mpr (.inr hn))
    have ne := items_ne l hn
    by_cases hs : o.same = "last"
    · rw [if_pos (.inr hs)]
      unfold putP
      rw [if_pos hh]
      unfold accR
      rw [en, List.map_map]
      refine List.map_congr_left fun m _ => ?_
      show ((.inr m : Key), flatVal o (oneR o (itemsR m (ns ++ [n]) (ws ++ [w])))) = ((.inr m : Key), if (Sum.inr m : Key) = .inr n then flatVal o w else flatVal o (oneR o (itemsR m ns ws)))
      rw [items_snoc l]
      by_cases e : n = m
      · subst e
        rw [if_pos rfl, if_pos rfl]
        unfold oneR
        rw [if_pos hs]
        simp
      · rw [if_neg e, List.append_nil, if_neg fun z => e (Sum.inr.inj z).symm]
    · rw [if_neg (by rintro (h | h); rw [hh] at h; cases h; exact hs h)]
      unfold accR
      rw [en]
      refine List.map_congr_left fun m _ => ?_
      rw [items_snoc l]
      by_cases e : n = m
      · subst e
        rw [if_pos rfl]
        unfold oneR
        rw [if_neg hs, if_neg hs]
        cases hx : itemsR n ns ws with
        | nil => exact absurd hx ne
        | cons x xs => rfl
      · rw [if_neg e, List.append_nil]
  · have hh : hasK (.inr n) (pK (accR o ns ws)) = false := by rw [← Bool.not_eq_true, acc_has]; exact hn
    have en : nub [] (ns ++ [n]) = nub [] ns ++ [n] := nub_out fun h => hn ((nub_mem.mp h).resolve_left (fun h => nomatch h))
    rw [if_pos (.inl hh)]
    unfold putP
    rw [hh, if_neg (by decide)]
    unfold accR
    rw [en, List.map_append]
    congr 1
    · refine List.map_congr_left fun m hm => ?_
      have hm2 : m ∈ ns := (nub_mem.mp hm).resolve_left (fun h => nomatch h)
      rw [items_snoc l, if_neg (fun (z : n = m) => hn (by rw [z]; exact hm2)), List.append_nil]
    · have e0 : itemsR n ns ws = [] := by
        unfold itemsR
        rw [List.map_eq_nil_iff, List.filter_eq_nil_iff]
        intro q hq h
        exact hn ((of_decide_eq_true h) ▸ (List.of_mem_zip hq).1)
      show [((.inr n : Key), flatVal o (oneR o (itemsR n (ns ++ [n]) (ws ++ [w]))))] = _
      rw [items_snoc l, e0, if_pos rfl]
      unfold oneR
      split <;> rfl
/-- the first name that stands there already -/
def dupN : List Str → List Str → Option Str
  | _, [] => none
  | seen, n :: ns => if n ∈ seen then some n else dupN (seen ++ [n]) ns
theorem bldT_flat {o : Ro} : ∀ (ns : List Str) (ws : List RawV) (ms : List Str) (us : List RawV), ns.length = ws.length → ms.length = us.length → (∀ w ∈ ws, flatR w) →
    bldT o ns ws [] (accR o ms us) = match (if o.same = "refuse" then dupN (nub [] ms) ns else none) with
      | some n => .error [.inr n]
      | none => .ok (accR o (ms ++ ns) (us ++ ws))
  | [], [], ms, us, _, l2, _ => by
    rw [bldT]
    · rw [List.append_nil, List.append_nil]
      split
      · rename_i h; split at h <;> cases h
      · rfl
    · intros; simp_all
  | n :: ns, w :: ws, ms, us, l1, l2, hf => by
    rw [bldT, flat_bld (hf w (by simp))]
    have hm : n ∈ nub [] ms ↔ n ∈ ms := ⟨fun h => (nub_mem.mp h).resolve_left (fun h => nomatch h), fun h => nub_mem.mpr (.inr h)⟩
    by_cases h : hasK (.inr n) (pK (accR o ms us)) = true ∧ o.same = "refuse"
    · rw [if_pos h, if_pos h.2, dupN, if_pos (hm.mpr (acc_has.mp h.1))]; rfl
    · rw [if_neg h]
      show bldT o ns ws [] _ = _
      rw [← acc_snoc l2]
      have ih := bldT_flat (o := o) ns ws (ms ++ [n]) (us ++ [w]) (by simpa using l1) (by simp [l2]) fun x hx => hf x (List.mem_cons_of_mem _ hx)
      rw [ih, List.append_assoc, List.append_assoc]
      by_cases hs : o.same = "refuse"
      · have hn : n ∉ ms := fun z => h ⟨acc_has.mpr z, hs⟩
        rw [if_pos hs, if_pos hs, dupN, if_neg (fun z => hn (hm.mp z)), nub_out (fun z => hn (hm.mp z))]; rfl
      · rw [if_neg hs, if_neg hs]; rfl
theorem bld_flat {o : Ro} {ns : List Str} {ws : List RawV} (l : ns.length = ws.length) (h : ∀ w ∈ ws, flatR w) : bldR o (.tab ns ws) [] = match (if o.same = "refuse" then dupN [] ns else none) with
    | some n => .error [.inr n]
    | none => .ok (bfin o (accR o ns ws)) := by
  have := bldT_flat (o := o) ns ws [] [] l rfl h
  rw [List.nil_append, List.nil_append] at this
  rw [bldR, show bldT o ns ws [] [] = bldT o ns ws [] (accR o [] []) from rfl, this]
  rw [show nub ([] : List Str) [] = [] from rfl]
  generalize (if o.same = "refuse" then dupN [] ns else none) = z
  cases z <;> rfl
structure RoOk (r : Ro) : Prop where
  same : r.same ∈ (["last", "first", "refuse"] : List Str)
  dig : r.dig ∈ (["text", "number"] : List Str)
  lists : r.lists ∈ (["list", "tuple"] : List Str)
  nulls : r.nulls ∈ (["keep", "skip"] : List Str)
def roT (r : Ro) : Tr := .lst [.str r.same, .str r.dig, .str r.lists, .str r.nulls]
def rdT (C : Addr) (r : Ro) : Tr := .ins C ["same_keys", "digit_keys", "lists", "null_items"] [.str r.same, .str r.dig, .str r.lists, .str r.nulls]
theorem rd_obj {C : Addr} {r : Ro} : RdO (rdT C r) C r ["same_keys", "digit_keys", "lists", "null_items"] [.str r.same, .str r.dig, .str r.lists, .str r.nulls] where
  eq := rfl
  same := by simp [fget, ofS_inj]
  dig := by simp [fget, ofS_inj]
  lists := by simp [fget, ofS_inj]
  nulls := by simp [fget, ofS_inj]
  no := fun m hm => by
    simp only [List.mem_cons, List.not_mem_nil, or_false, not_or] at hm
    simp [fget, hm]
def FlatY (y : Tr) : Prop := ∃ w : RawV, y = rT w ∧ flatR w ∧ ROk w ∧ rdepth w ≤ 1 ∧ rparts w ≤ 5
theorem leaf_raw {y : Tr} (h : IsLeaf y) : ∃ w : RawV, y = rT w ∧ leafR w ∧ ROk w ∧ rdepth w = 0 ∧ rparts w = 1 := by
  obtain ⟨v, rfl, hl, ov⟩ := h
  cases v with
  | non => exact ⟨.non, rfl, trivial, trivial, rfl, rfl⟩
  | bl b => exact ⟨.bl b, rfl, trivial, trivial, rfl, rfl⟩
  | int n => exact ⟨.int n, rfl, trivial, ov, rfl, rfl⟩
  | str z => exact ⟨.str z, rfl, trivial, ov, rfl, rfl⟩
  | _ => exact hl.elim
theorem str_keyS {k : Key} (h : KOk k) : gStr4 [kT k] (.str (keyS k)) := by
  cases k with
  | inl n => exact ⟨log_int h, rfl⟩
  | inr z => rfl
theorem keyS_lok {k : Key} (h : KOk k) : LOk (keyS k) := keyS_ok h
theorem rTL_leaf : ∀ {xs : List RawV}, (∀ x ∈ xs, leafR x) → rTL xs = mTL (xs.map leafVal)
  | [], _ => rfl
  | x :: xs, h => by rw [rTL, leaf_mT (h x (by simp)), rTL_leaf fun y hy => h y (List.mem_cons_of_mem _ hy)]; rfl
theorem isT_raw {o : Ro} {w : RawV} (h : flatR w) : isT (rT w) .non = isNonV (flatVal o w) := by
  cases w with
  | row xs =>
    show false = isNonV (if o.lists = "tuple" then .tup (xs.map leafVal) else .lst (xs.map leafVal))
    by_cases hl : o.lists = "tuple"
    · rw [if_pos hl]; rfl
    · rw [if_neg hl]; rfl
  | tab ns xs => exact h.elim
  | _ => rfl
theorem flat_one {o : Ro} {n : Str} {ns : List Str} {ws : List RawV} (h : ∀ w ∈ ws, flatR w) : flatR (oneR o (itemsR n ns ws)) := by
  have key : ∀ w ∈ itemsR n ns ws, flatR w := fun w hw => by
    obtain ⟨q, hq, rfl⟩ := List.mem_map.mp hw
    exact h _ (List.of_mem_zip (List.mem_filter.mp hq).1).2
  unfold oneR
  split
  · cases e : itemsR n ns ws with
    | nil => exact trivial
    | cons x xs => rw [← e]; cases hl : (itemsR n ns ws).getLast? with
      | none => rw [List.getLast?_eq_none_iff, e] at hl; cases hl
      | some y =>
        rw [List.getLastD_eq_getLast?, hl]
        exact key y (List.mem_of_getLast? hl)
  · cases e : itemsR n ns ws with
    | nil => exact trivial
    | cons x xs => exact key x (by rw [e]; simp)
/-! ### raw values as data -/
mutual
theorem rT_D : ∀ w : RawV, ROk w → ∃ d, toD (rT w) = some d ∧ PyData.canLay0 d = true ∧ PyData.depth d ≤ 3 * rdepth w + 1 ∧ PyData.eqv d d = true
  | .non, _ => ⟨.none, rfl, rfl, by simp [PyData.depth], by simp [PyData.eqv]⟩
  | .bl b, _ => ⟨.bool b, rfl, rfl, by simp [PyData.depth], by simp [PyData.eqv]⟩
  | .int n, _ => ⟨.int n, rfl, rfl, by simp [PyData.depth], by simp [PyData.eqv]⟩
  | .str z, h => ⟨.str z, rfl, KB.pr_strOk h.1, by simp [PyData.depth], by simp [PyData.eqv]⟩
  | .row xs, h => by
    obtain ⟨ds, e, h1, h2, h3⟩ := rTL_D xs h
    refine ⟨.tuple [.str "row", .list ds], by simp only [rT, toD, toDs, e]; rfl, ?_, ?_, ?_⟩
    · show (PyData.strOk _ && (PyData.canLayAll0 ds && true)) = true
      rw [h1]; decide +kernel
    · show max (PyData.depth (.str _)) (max (PyData.depthAll ds + 1) 0) + 1 ≤ 3 * (1 + rdepthL xs) + 1
      have : PyData.depth (.str (Str.ofString "row")) ≤ 1 := by simp [PyData.depth]
      omega
    · simp [PyData.eqv, PyData.eqvAll, h3]
  | .tab ns xs, h => by
    obtain ⟨ds, e, h1, h2, h3⟩ := rTP_D xs ns h.1 h.2.2
    refine ⟨.tuple [.str "table", .list ds], by simp only [rT, toD, toDs, e]; rfl, ?_, ?_, ?_⟩
    · show (PyData.strOk _ && (PyData.canLayAll0 ds && true)) = true
      rw [h1]; decide +kernel
    · show max (PyData.depth (.str _)) (max (PyData.depthAll ds + 1) 0) + 1 ≤ 3 * (1 + rdepthL xs) + 1
      have : PyData.depth (.str (Str.ofString "table")) ≤ 1 := by simp [PyData.depth]
      omega
    · simp [PyData.eqv, PyData.eqvAll, h3]
theorem rTL_D : ∀ xs : List RawV, ROkL xs → ∃ ds, toDs (rTL xs) = some ds ∧ PyData.canLayAll0 ds = true ∧ PyData.depthAll ds ≤ 3 * rdepthL xs + 1 ∧ PyData.eqvAll ds ds = true
  | [], _ => ⟨[], rfl, rfl, by simp [PyData.depthAll], by simp [PyData.eqvAll]⟩
  | x :: xs, h => by
    obtain ⟨d, e, h1, h2, h3⟩ := rT_D x h.1
    obtain ⟨ds, e', g1, g2, g3⟩ := rTL_D xs h.2
    refine ⟨d :: ds, by simp only [rTL, toDs, e, e'], ?_, ?_, ?_⟩
    · show (PyData.canLay0 d && PyData.canLayAll0 ds) = true
      rw [h1, g1]; rfl
    · show max (PyData.depth d) (PyData.depthAll ds) ≤ 3 * max (rdepth x) (rdepthL xs) + 1
      omega
    · rw [PyData.eqvAll, h3, g3]; rfl
theorem rTP_D : ∀ (xs : List RawV) (ns : List Str), ROkL xs → (∀ n ∈ ns, LOk n) → ∃ ds, toDs (rTP ns xs) = some ds ∧ PyData.canLayAll0 ds = true ∧ PyData.depthAll ds ≤ 3 * rdepthL xs + 2 ∧ PyData.eqvAll ds ds = true
  | [], [], _, _ => ⟨[], rfl, rfl, by simp [PyData.depthAll], by simp [PyData.eqvAll]⟩
  | [], _ :: _, _, _ => ⟨[], rfl, rfl, by simp [PyData.depthAll], by simp [PyData.eqvAll]⟩
  | _ :: _, [], _, _ => ⟨[], rfl, rfl, by simp [PyData.depthAll], by simp [PyData.eqvAll]⟩
  | x :: xs, n :: ns, h, hk => by
    obtain ⟨d, e, h1, h2, h3⟩ := rT_D x h.1
    obtain ⟨ds, e', g1, g2, g3⟩ := rTP_D xs ns h.2 fun j hj => hk j (List.mem_cons_of_mem _ hj)
    refine ⟨.tuple [.str n, d] :: ds, by simp only [rTP, toDs, toD, e, e']; rfl, ?_, ?_, ?_⟩
    · show ((PyData.strOk n && (PyData.canLay0 d && true)) && PyData.canLayAll0 ds) = true
      rw [h1, g1, KB.pr_strOk (hk n (List.mem_cons_self ..)).1]; rfl
    · show max (max (PyData.depth (.str n)) (max (PyData.depth d) 0) + 1) (PyData.depthAll ds) ≤ 3 * max (rdepth x) (rdepthL xs) + 2
      have : PyData.depth (.str n) ≤ 1 := by simp [PyData.depth]
      omega
    · simp [PyData.eqv, PyData.eqvAll, h3, g3]
end
theorem rTab_eq {ns : List Str} {xs : List RawV} {n : Bool} (h : ROkL xs) (hn : ∀ z ∈ ns, LOk z) (hd : rdepthL xs ≤ 19) : gEq n (.tup [.str "table", .lst (rTP ns xs)]) (.tup [.str "table", .lst (rTP ns xs)]) (.bl (n ^^ true)) := by
  obtain ⟨ds, e, h1, h2, h3⟩ := rTP_D xs ns h hn
  have d : toD (.tup [.str "table", .lst (rTP ns xs)]) = some (.tuple [.str "table", .list ds]) := by simp only [toD, toDs, e]; rfl
  have s : SeqAt.shaped (.tuple [.str (Str.ofString "table"), .list ds]) = true := by
    show ((PyData.strOk _ && (PyData.canLayAll0 ds && true)) && decide (max (PyData.depth (.str _)) (max (PyData.depthAll ds + 1) 0) + 1 ≤ 64)) = true
    have : PyData.depth (.str (Str.ofString "table")) ≤ 1 := by simp [PyData.depth]
    rw [h1, decide_eq_true (by omega)]; decide +kernel
  refine .inr ⟨rfl, _, _, d, d, s, s, ?_⟩
  rw [show PyData.eqv (.tuple [.str (Str.ofString "table"), .list ds]) (.tuple [.str (Str.ofString "table"), .list ds]) = true by simp [PyData.eqv, PyData.eqvAll, h3]]
theorem dupN_mem : ∀ (ns seen : List Str) {z : Str}, dupN seen ns = some z → z ∈ ns
  | [], _, _, h => by cases h
  | n :: ns, seen, z, h => by
    rw [dupN] at h
    by_cases hn : n ∈ seen
    · rw [if_pos hn] at h; cases h; simp
    · rw [if_neg hn] at h; exact List.mem_cons_of_mem _ (dupN_mem ns _ h)
theorem rdL_snoc {x : RawV} : ∀ xs : List RawV, rdepthL (xs ++ [x]) = max (rdepthL xs) (rdepth x)
  | [] => by show max (rdepth x) 0 = max 0 (rdepth x); omega
  | y :: xs => by show max (rdepth y) (rdepthL (xs ++ [x])) = max (max (rdepth y) (rdepthL xs)) (rdepth x); rw [rdL_snoc xs]; omega
theorem ROkL.snoc {x : RawV} : ∀ {xs : List RawV}, ROkL xs → ROk x → ROkL (xs ++ [x])
  | [], _, h => ⟨h, trivial⟩
  | _ :: _, h, g => ⟨h.1, ROkL.snoc h.2 g⟩
theorem rTP_take {ns : List Str} {ws : List RawV} {n : Str} {w : RawV} (h : ns[ws.length]? = some n) : rTP (ns.take (ws.length + 1)) (ws ++ [w]) = rTP (ns.take ws.length) ws ++ [.tup [.str n, rT w]] := by
  have hi := (List.getElem?_eq_some_iff.mp h).1
  rw [List.take_add_one, h, rTP_zip, rTP_zip, List.zip_append (by rw [List.length_take]; omega), List.map_append]; rfl
theorem rTP_length {ns : List Str} {ws : List RawV} (l : ns.length = ws.length) : (rTP ns ws).length = ws.length := by
  rw [rTP_zip, List.length_map, List.length_zip, l, Nat.min_self]
/-- a verdict of building, as the laws tell it -/
def bT : Except (List Key) Val → Tr
  | .ok v => .tup [.str "value", mT v]
  | .error e => .tup [.str "no", .lst (e.map kT)]
/-! ### == of deeper data (the room of a level suffices for 200) -/
def rEqW (K : PySem.W.Frag) : R2 := fun x y H Q => ∃ d e, Dp K H x d ∧ Dp K H y e ∧ d.canLay0 = true ∧ e.canLay0 = true ∧ d.depth ≤ 200 ∧ Q (.bl (PyData.eqv d e)) H
theorem eqw_op {X : Cx} {k : Nat} (hr : Room k X.A) : OpR X (compareOp .Eq) (rEqW X.K) := by
  intro pins s σ H x y v u Q I rx ry h
  obtain ⟨d, e, hd, he, sd, se, dd, q⟩ := h
  obtain ⟨as, r1⟩ := Dp.reads I d x v hd rx
  obtain ⟨bs, r2⟩ := Dp.reads I e y u he ry
  exact PySem.SeqAt.compareEq_reads r1 r2 sd se (by have := hr.un; have := Nat.min_le_left d.depth e.depth; omega) ⟨.bl _, H, I, rfl, q⟩
def gEqW (x y z : Tr) : Prop := ∃ d e, toD x = some d ∧ toD y = some e ∧ d.canLay0 = true ∧ e.canLay0 = true ∧ d.depth ≤ 200 ∧ z = .bl (PyData.eqv d e)
theorem o_eqw {K : PySem.W.Frag} : OpT K (rEqW K) gEqW := by
  intro L F H S I x y z v w R hd rx ry hg k
  obtain ⟨d, e, e1, e2, s1, s2, dd, rfl⟩ := hg
  exact ⟨d, e, toD_vw hd e1 rx, toD_vw hd e2 ry, s1, s2, dd, k _ H I hd (Same.refl _) rfl⟩
theorem rT_eqw {w : RawV} (h : ROk w) (hd : rdepth w ≤ 66) : gEqW (rT w) (rT w) (.bl true) := by
  obtain ⟨d, e, h1, h2, h3⟩ := rT_D w h
  exact ⟨d, d, e, e, h1, h1, by omega, by rw [h3]⟩
theorem vw_rT {S : Sto} {w : RawV} : vw S (rT w) = rT w := by cases w <;> rfl
/-! ### the path of a refusal -/
theorem keys_snoc {p : List Key} {k : Key} (h : ∀ j ∈ p, KOk j) (hk : KOk k) : ∀ j ∈ p ++ [k], KOk j := fun j hj => by
  rcases List.mem_append.mp hj with hj | hj
  · exact h j hj
  · rw [List.mem_singleton.mp hj]; exact hk
theorem kok_nat {i : Nat} (h : i ≤ 100000) : KOk (.inl (i : Int)) := Nat.lt_of_le_of_lt (show ((i : Nat) : Int).natAbs ≤ 100000 by omega) (by decide)
theorem rparts_pos : ∀ w : RawV, 1 ≤ rparts w
  | .row xs => Nat.le_add_right 1 _
  | .tab _ xs => Nat.le_add_right 1 _
  | .non => Nat.le_refl 1
  | .bl _ => Nat.le_refl 1
  | .int _ => Nat.le_refl 1
  | .str _ => Nat.le_refl 1
mutual
theorem bldR_err (o : Ro) : ∀ (w : RawV) (p e : List Key), ROk w → rparts w ≤ 100000 → (∀ k ∈ p, KOk k) → bldR o w p = .error e → (∀ k ∈ e, KOk k) ∧ e.length ≤ p.length + rdepth w
  | .non, p, e, _, _, _, h => by cases h
  | .bl _, p, e, _, _, _, h => by cases h
  | .int _, p, e, _, _, _, h => by cases h
  | .str _, p, e, _, _, _, h => by cases h
  | .row xs, p, e, ow, np, hp, h => by
    have np : 1 + rpartsL xs ≤ 100000 := np
    rw [bldR] at h
    cases q : bldL o xs 0 p with
    | error e2 =>
      rw [q] at h
      cases h
      have := bldL_err o xs 0 p e ow (by omega) hp q
      exact ⟨this.1, by have := this.2; show _ ≤ _ + (1 + rdepthL xs); omega⟩
    | ok vs => rw [q] at h; cases h
  | .tab ns xs, p, e, ow, np, hp, h => by
    have np : 1 + rpartsL xs ≤ 100000 := np
    rw [bldR] at h
    cases q : bldT o ns xs p [] with
    | error e2 =>
      rw [q] at h
      cases h
      have := bldT_err o ns xs p [] e ow.1 ow.2.2 (by omega) hp q
      exact ⟨this.1, by have := this.2; show _ ≤ _ + (1 + rdepthL xs); omega⟩
    | ok vs => rw [q] at h; cases h
theorem bldL_err (o : Ro) : ∀ (xs : List RawV) (i : Nat) (p e : List Key), ROkL xs → i + rpartsL xs ≤ 100000 → (∀ k ∈ p, KOk k) → bldL o xs i p = .error e → (∀ k ∈ e, KOk k) ∧ e.length ≤ p.length + 1 + rdepthL xs
  | [], i, p, e, _, _, _, h => by cases h
  | x :: xs, i, p, e, ow, np, hp, h => by
    have np : i + (rparts x + rpartsL xs) ≤ 100000 := np
    have pp := rparts_pos x
    rw [bldL] at h
    cases q : bldR o x (p ++ [.inl (i : Int)]) with
    | error e2 =>
      rw [q] at h
      cases h
      have := bldR_err o x _ e ow.1 (by omega) (keys_snoc hp (kok_nat (by omega))) q
      refine ⟨this.1, ?_⟩
      have := this.2
      rw [List.length_append, List.length_singleton] at this
      show _ ≤ _ + 1 + max (rdepth x) (rdepthL xs)
      omega
    | ok v =>
      rw [q] at h
      dsimp only at h
      cases q2 : bldL o xs (i + 1) p with
      | error e2 =>
        rw [q2] at h
        cases h
        have := bldL_err o xs (i + 1) p e ow.2 (by omega) hp q2
        exact ⟨this.1, by have := this.2; show _ ≤ _ + 1 + max (rdepth x) (rdepthL xs); omega⟩
      | ok vs => rw [q2] at h; cases h
theorem bldT_err (o : Ro) : ∀ (ns : List Str) (xs : List RawV) (p : List Key) (acc : List (Key × Val)) (e : List Key), ROkL xs → (∀ z ∈ ns, LOk z) → rpartsL xs ≤ 100000 → (∀ k ∈ p, KOk k) → bldT o ns xs p acc = .error e → (∀ k ∈ e, KOk k) ∧ e.length ≤ p.length + 1 + rdepthL xs
  | [], [], p, acc, e, _, _, _, _, h => by cases h
  | [], _ :: _, p, acc, e, _, _, _, _, h => by cases h
  | _ :: _, [], p, acc, e, _, _, _, _, h => by cases h
  | n :: ns, x :: xs, p, acc, e, ow, on, np, hp, h => by
    have np : rparts x + rpartsL xs ≤ 100000 := np
    have k1 : KOk (.inr n) := on n (List.mem_cons_self ..)
    rw [bldT] at h
    by_cases c : hasK (.inr n) (pK acc) = true ∧ o.same = "refuse"
    · rw [if_pos c] at h
      cases h
      exact ⟨keys_snoc hp k1, by rw [List.length_append, List.length_singleton]; omega⟩
    · rw [if_neg c] at h
      cases q : bldR o x (p ++ [.inr n]) with
      | error e2 =>
        rw [q] at h
        cases h
        have := bldR_err o x _ e ow.1 (by omega) (keys_snoc hp k1) q
        refine ⟨this.1, ?_⟩
        have := this.2
        rw [List.length_append, List.length_singleton] at this
        show _ ≤ _ + 1 + max (rdepth x) (rdepthL xs)
        omega
      | ok v =>
        rw [q] at h
        dsimp only at h
        have := bldT_err o ns xs p _ e ow.2 (fun z hz => on z (List.mem_cons_of_mem _ hz)) (by omega) hp h
        exact ⟨this.1, by have := this.2; show _ ≤ _ + 1 + max (rdepth x) (rdepthL xs); omega⟩
end
end KQ
namespace KQ
open PySem PySem.Spec PyProof.Rows L2 TL KB
/-! ### the writer -/
structure Wo where
  keys : Str
  tups : Str
  nulls : Str
  dbl : Str
  order : Str
  longs : Str
structure WoOk (w : Wo) : Prop where
  keys : w.keys ∈ (["text", "skip", "refuse"] : List Str)
  tups : w.tups ∈ (["list", "refuse"] : List Str)
  nulls : w.nulls ∈ (["keep", "skip"] : List Str)
  dbl : w.dbl ∈ (["keep", "refuse"] : List Str)
  order : w.order ∈ (["keep", "rising"] : List Str)
  longs : w.longs ∈ (["keep", "text", "refuse"] : List Str)
def woFs : List Str := ["number_keys", "tuples", "nulls", "double_keys", "order", "long_numbers"]
def woXs (w : Wo) : List Tr := [.str w.keys, .str w.tups, .str w.nulls, .str w.dbl, .str w.order, .str w.longs]
def woT (w : Wo) : Tr := .lst [.str w.keys, .str w.tups, .str w.nulls, .str w.dbl, .str w.order, .str w.longs]
def wtT (C : Addr) (w : Wo) : Tr := .ins C ["number_keys", "tuples", "nulls", "double_keys", "order", "long_numbers"] [.str w.keys, .str w.tups, .str w.nulls, .str w.dbl, .str w.order, .str w.longs]
/-- an object with a writer's options -/
structure WtO (o : Tr) (C : Addr) (w : Wo) (fs : List Str) (xs : List Tr) : Prop where
  eq : o = .ins C fs xs
  keys : fget "number_keys" fs xs = some (.str w.keys)
  tups : fget "tuples" fs xs = some (.str w.tups)
  nulls : fget "nulls" fs xs = some (.str w.nulls)
  dbl : fget "double_keys" fs xs = some (.str w.dbl)
  order : fget "order" fs xs = some (.str w.order)
  longs : fget "long_numbers" fs xs = some (.str w.longs)
  no : ∀ m, m ∉ (["number_keys", "tuples", "nulls", "double_keys", "order", "long_numbers", "same_keys", "digit_keys", "lists", "null_items"] : List Str) → fget m fs xs = none
theorem wt_obj {C : Addr} {w : Wo} : WtO (wtT C w) C w ["number_keys", "tuples", "nulls", "double_keys", "order", "long_numbers"] [.str w.keys, .str w.tups, .str w.nulls, .str w.dbl, .str w.order, .str w.longs] where
  eq := rfl
  keys := by simp [fget, ofS_inj]
  tups := by simp [fget, ofS_inj]
  nulls := by simp [fget, ofS_inj]
  dbl := by simp [fget, ofS_inj]
  order := by simp [fget, ofS_inj]
  longs := by simp [fget, ofS_inj]
  no := fun m hm => by
    simp only [List.mem_cons, List.not_mem_nil, or_false, not_or] at hm
    simp [fget, hm]
def intS (n : Int) : Str := Str.ofString (toString n)
def longI (n : Int) : Bool := decide ((15 : Int) < ((intS (n.natAbs : Int)).length : Int))
abbrev WErr := Str × List Key
/-- an integer, written -/
def wI (o : Wo) (i : Int) (p : List Key) : Except WErr RawV :=
  if longI i = true ∧ ¬ o.longs = "keep" then (if o.longs = "refuse" then .error ("long", p) else .ok (.str (intS i))) else .ok (.int i)
/-- items, one after another -/
def wL (f : Val → List Key → Except WErr RawV) : List Val → Nat → List Key → Except WErr (List RawV)
  | [], _, _ => .ok []
  | v :: vs, i, p => match f v (p ++ [.inl i]) with
    | .error e => .error e
    | .ok w => match wL f vs (i + 1) p with
      | .error e => .error e
      | .ok ws => .ok (w :: ws)
/-- the entries that are written -/
def wK (o : Wo) : List (Key × Val) → Except Key (List (Key × Val))
  | [] => .ok []
  | q :: qs => if isNonV q.2 = true ∧ o.nulls = "skip" then wK o qs
    else if isInl q.1 = true ∧ o.keys = "refuse" then .error q.1
    else match wK o qs with
      | .error k => .error k
      | .ok rs => .ok (if isInl q.1 = false ∨ o.keys = "text" then q :: rs else rs)
def leS (a b : Str) : Bool := !decide (b.cps.toList < a.cps.toList)
def wS (o : Wo) (qs : List (Key × Val)) : List (Key × Val) := if o.order = "rising" then qs.mergeSort (fun a b => leS (keyS a.1) (keyS b.1)) else qs
def wP (f : Val → List Key → Except WErr RawV) (o : Wo) : List (Key × Val) → List Key → List Str → Except WErr (List (Str × RawV))
  | [], _, _ => .ok []
  | q :: qs, p, acc => if keyS q.1 ∈ acc ∧ o.dbl = "refuse" then .error ("double", p ++ [q.1])
    else match f q.2 (p ++ [q.1]) with
      | .error e => .error e
      | .ok w => match wP f o qs p (acc ++ [keyS q.1]) with
        | .error e => .error e
        | .ok ws => .ok ((keyS q.1, w) :: ws)
def wT (f : Val → List Key → Except WErr RawV) (o : Wo) (ps : List (Key × Val)) (p : List Key) : Except WErr RawV :=
  match wK o ps with
  | .error k => .error ("key", p ++ [k])
  | .ok qs => match wP f o (wS o qs) p [] with
    | .error e => .error e
    | .ok ws => .ok (.tab (ws.map (·.1)) (ws.map (·.2)))
def wR (f : Val → List Key → Except WErr RawV) (vs : List Val) (p : List Key) : Except WErr RawV :=
  match wL f vs 0 p with
  | .error e => .error e
  | .ok ws => .ok (.row ws)
/-- the raw value of a value, or the first refusal; the number is above the depth -/
def wrt (o : Wo) : Nat → Val → List Key → Except WErr RawV
  | 0, _, _ => .ok .non
  | n + 1, v, p => match v with
    | .non => .ok .non
    | .bl b => .ok (.bl b)
    | .int i => wI o i p
    | .str z => .ok (.str z)
    | .lst vs => wR (wrt o n) vs p
    | .tup vs => if o.tups = "refuse" then .error ("tuple", p) else wR (wrt o n) vs p
    | .tab ks vs => wT (wrt o n) o (ks.zip vs) p
/-! ### what is written -/
theorem wdL_mem {v : Val} : ∀ {vs : List Val}, v ∈ vs → vdepth v ≤ vdepthL vs ∧ vparts v ≤ vpartsL vs
  | u :: vs, h => by
    show vdepth v ≤ max (vdepth u) (vdepthL vs) ∧ vparts v ≤ vparts u + vpartsL vs
    rcases List.mem_cons.mp h with rfl | h
    · exact ⟨Nat.le_max_left .., Nat.le_add_right ..⟩
    · have := wdL_mem h; omega
def WGood (d m : Nat) (f : Val → List Key → Except WErr RawV) : Prop := ∀ v p w, VOk v → vdepth v < d → f v p = .ok w → ROk w ∧ rdepth w ≤ vdepth v ∧ rparts w ≤ vparts v
theorem intS_ok {n : Int} (h : n.natAbs < 10 ^ 30) : LOk (intS n) := keyS_ok (k := .inl n) h
theorem wI_ok {o : Wo} {i : Int} {p : List Key} {w : RawV} (h : i.natAbs < 10 ^ 30) (e : wI o i p = .ok w) : ROk w ∧ rdepth w ≤ 0 ∧ rparts w ≤ 1 := by
  unfold wI at e
  split at e
  · split at e
    · cases e
    · cases e; exact ⟨intS_ok h, Nat.le_refl _, Nat.le_refl _⟩
  · cases e; exact ⟨h, Nat.le_refl _, Nat.le_refl _⟩
theorem wL_ok {d m : Nat} {f : Val → List Key → Except WErr RawV} (g : WGood d m f) : ∀ (vs : List Val) (i : Nat) (p : List Key) (ws : List RawV), VOkL vs → vdepthL vs < d → wL f vs i p = .ok ws → ROkL ws ∧ rdepthL ws ≤ vdepthL vs ∧ rpartsL ws ≤ vpartsL vs ∧ ws.length = vs.length
  | [], i, p, ws, _, _, e => by cases e; exact ⟨trivial, Nat.le_refl _, Nat.le_refl _, rfl⟩
  | v :: vs, i, p, ws, h, hd, e => by
    have hd : max (vdepth v) (vdepthL vs) < d := hd
    rw [wL] at e
    split at e
    · cases e
    · rename_i w hw
      split at e
      · cases e
      · rename_i us hu
        cases e
        obtain ⟨a1, a2, a3⟩ := g v _ w h.1 (by omega) hw
        obtain ⟨b1, b2, b3, b4⟩ := wL_ok g vs _ p us h.2 (by omega) hu
        refine ⟨⟨a1, b1⟩, ?_, ?_, by rw [List.length_cons, List.length_cons, b4]⟩
        · show max (rdepth w) (rdepthL us) ≤ max (vdepth v) (vdepthL vs); omega
        · show rparts w + rpartsL us ≤ vparts v + vpartsL vs; omega
theorem wK_sub {o : Wo} : ∀ (ps qs : List (Key × Val)), wK o ps = .ok qs → qs.Sublist ps
  | [], qs, e => by cases e; exact List.Sublist.refl _
  | q :: ps, qs, e => by
    rw [wK] at e
    split at e
    · exact (wK_sub ps qs e).cons _
    · split at e
      · cases e
      · split at e
        · cases e
        · rename_i rs hr
          have := wK_sub ps rs hr
          cases e
          split
          · exact this.cons_cons _
          · exact this.cons _
theorem wS_perm {o : Wo} {qs : List (Key × Val)} : (wS o qs).Perm qs := by
  unfold wS
  split
  · exact List.mergeSort_perm ..
  · exact List.Perm.refl _
theorem wP_ok {d m : Nat} {f : Val → List Key → Except WErr RawV} {o : Wo} (g : WGood d m f) : ∀ (qs : List (Key × Val)) (p : List Key) (acc : List Str) (ws : List (Str × RawV)), (∀ q ∈ qs, KOk q.1 ∧ VOk q.2 ∧ vdepth q.2 < d) → wP f o qs p acc = .ok ws →
    ROkL (ws.map (·.2)) ∧ (∀ n ∈ ws.map (·.1), LOk n) ∧ rdepthL (ws.map (·.2)) ≤ vdepthL (qs.map (·.2)) ∧ rpartsL (ws.map (·.2)) ≤ vpartsL (qs.map (·.2)) ∧ ws.length = qs.length
  | [], p, acc, ws, _, e => by cases e; exact ⟨trivial, (fun _ h => nomatch h), Nat.le_refl _, Nat.le_refl _, rfl⟩
  | q :: qs, p, acc, ws, h, e => by
    rw [wP] at e
    split at e
    · cases e
    · split at e
      · cases e
      · rename_i w hw
        split at e
        · cases e
        · rename_i us hu
          cases e
          obtain ⟨k1, k2, k3⟩ := h q (List.mem_cons_self ..)
          obtain ⟨a1, a2, a3⟩ := g q.2 _ w k2 k3 hw
          obtain ⟨b1, b2, b3, b4, b5⟩ := wP_ok g qs p _ us (fun x hx => h x (List.mem_cons_of_mem _ hx)) hu
          refine ⟨⟨a1, b1⟩, fun n hn => ?_, ?_, ?_, by rw [List.length_cons, List.length_cons, b5]⟩
          · rw [List.map_cons] at hn
            rcases List.mem_cons.mp hn with rfl | hn
            · exact keyS_lok k1
            · exact b2 n hn
          · show max (rdepth w) (rdepthL (us.map (·.2))) ≤ max (vdepth q.2) (vdepthL (qs.map (·.2))); omega
          · show rparts w + rpartsL (us.map (·.2)) ≤ vparts q.2 + vpartsL (qs.map (·.2)); omega
theorem wpL_perm {vs ws : List Val} (h : vs.Perm ws) : vpartsL vs = vpartsL ws ∧ vdepthL vs = vdepthL ws := by
  induction h with
  | nil => exact ⟨rfl, rfl⟩
  | cons x _ ih => exact ⟨congrArg (vparts x + ·) ih.1, congrArg (max (vdepth x) ·) ih.2⟩
  | swap x y l => exact ⟨by show vparts y + (vparts x + vpartsL l) = vparts x + (vparts y + vpartsL l); omega, by show max (vdepth y) (max (vdepth x) (vdepthL l)) = max (vdepth x) (max (vdepth y) (vdepthL l)); omega⟩
  | trans _ _ a b => exact ⟨a.1.trans b.1, a.2.trans b.2⟩
theorem wpL_sub {vs ws : List Val} (h : vs.Sublist ws) : vpartsL vs ≤ vpartsL ws ∧ vdepthL vs ≤ vdepthL ws := by
  induction h with
  | slnil => exact ⟨Nat.le_refl _, Nat.le_refl _⟩
  | cons x _ ih => exact ⟨by show _ ≤ vparts x + _; omega, by show _ ≤ max (vdepth x) _; omega⟩
  | cons_cons x _ ih => exact ⟨Nat.add_le_add_left ih.1 _, by show max (vdepth x) _ ≤ max (vdepth x) _; omega⟩
/-- the entries of a table, kept and in order -/
theorem wKS {o : Wo} {ks : List Key} {vs : List Val} {qs : List (Key × Val)} (l : ks.length = vs.length) (ok : VOkL vs) (ok2 : ∀ k ∈ ks, KOk k) (e : wK o (ks.zip vs) = .ok qs) :
    (∀ q ∈ wS o qs, KOk q.1 ∧ VOk q.2 ∧ vdepth q.2 ≤ vdepthL vs ∧ vparts q.2 ≤ vpartsL vs) ∧ vdepthL ((wS o qs).map (·.2)) ≤ vdepthL vs ∧ vpartsL ((wS o qs).map (·.2)) ≤ vpartsL vs ∧ (wS o qs).length ≤ ks.length := by
  have s := wK_sub _ _ e
  have p := wS_perm (o := o) (qs := qs)
  have z : (ks.zip vs).map (·.2) = vs := List.map_snd_zip (by omega)
  have s2 := wpL_sub (s.map (·.2))
  have p2 := wpL_perm (p.map (·.2))
  rw [z] at s2
  refine ⟨fun q hq => ?_, by omega, by omega, by rw [p.length_eq]; have := s.length_le; rw [List.length_zip] at this; omega⟩
  have m := s.subset (p.mem_iff.mp hq)
  have m2 := List.of_mem_zip m
  obtain ⟨i, hi⟩ := List.mem_iff_getElem?.mp m2.2
  exact ⟨ok2 _ m2.1, VOkL.get ok hi, (wdL_mem m2.2).1, (wdL_mem m2.2).2⟩
theorem wrt_ok (o : Wo) : ∀ n, WGood n 0 (wrt o n)
  | 0 => fun v p w _ h _ => absurd h (Nat.not_lt_zero _)
  | n + 1 => fun v p w h hd e => by
    have row : ∀ vs, VOkL vs → 1 + vdepthL vs < n + 1 → wR (wrt o n) vs p = .ok w → ROk w ∧ rdepth w ≤ 1 + vdepthL vs ∧ rparts w ≤ 1 + vpartsL vs := fun vs ov dv e => by
      unfold wR at e
      split at e
      · cases e
      · rename_i ws hw
        obtain ⟨a1, a2, a3, _⟩ := wL_ok (wrt_ok o n) vs 0 p ws ov (by omega) hw
        cases e
        exact ⟨a1, Nat.add_le_add_left a2 1, Nat.add_le_add_left a3 1⟩
    cases v with
    | non => cases e; exact ⟨trivial, Nat.le_refl _, Nat.le_refl _⟩
    | bl b => cases e; exact ⟨trivial, Nat.le_refl _, Nat.le_refl _⟩
    | str z => cases e; exact ⟨h, Nat.le_refl _, Nat.le_refl _⟩
    | int i => exact wI_ok h e
    | lst vs => exact row vs h hd e
    | tup vs =>
      rw [wrt] at e
      try dsimp only at e
      split at e
      · cases e
      · exact row vs h hd e
    | tab ks vs =>
      have hd : 1 + vdepthL vs < n + 1 := hd
      rw [wrt] at e
      try dsimp only at e
      unfold wT at e
      split at e
      · cases e
      · rename_i qs hq
        obtain ⟨k1, k2, k3, k4⟩ := wKS (o := o) h.2.1 h.1 h.2.2.1 hq
        split at e
        · cases e
        · rename_i ws hw
          obtain ⟨a1, a2, a3, a4, a5⟩ := wP_ok (wrt_ok o n) _ p [] ws (fun q hq => ⟨(k1 q hq).1, (k1 q hq).2.1, by have := (k1 q hq).2.2.1; omega⟩) hw
          cases e
          exact ⟨⟨a1, by rw [List.length_map, List.length_map], a2⟩, Nat.add_le_add_left (Nat.le_trans a3 k2) 1, Nat.add_le_add_left (Nat.le_trans a4 k3) 1⟩
/-! ### refusals -/
def WBad (d : Nat) (f : Val → List Key → Except WErr RawV) : Prop := ∀ v p e, VOk v → vdepth v < d → vparts v ≤ 100000 → (∀ k ∈ p, KOk k) → f v p = .error e → (∀ k ∈ e.2, KOk k) ∧ e.2.length ≤ p.length + vdepth v
theorem wL_err {d : Nat} {f : Val → List Key → Except WErr RawV} (g : WBad d f) : ∀ (vs : List Val) (i : Nat) (p : List Key) (e : WErr), VOkL vs → vdepthL vs < d → i + vpartsL vs ≤ 100000 → (∀ k ∈ p, KOk k) → wL f vs i p = .error e → (∀ k ∈ e.2, KOk k) ∧ e.2.length ≤ p.length + 1 + vdepthL vs
  | [], i, p, e, _, _, _, _, h => by cases h
  | v :: vs, i, p, e, ov, hd, np, hp, h => by
    have hd : max (vdepth v) (vdepthL vs) < d := hd
    have np : i + (vparts v + vpartsL vs) ≤ 100000 := np
    have pp : 0 < vparts v := by cases v <;> first | exact Nat.one_pos | (show 0 < 1 + _; omega)
    rw [wL] at h
    split at h
    · rename_i e2 he
      cases h
      obtain ⟨a1, a2⟩ := g v _ e ov.1 (by omega) (by omega) (keys_snoc hp (kok_nat (by omega))) he
      rw [List.length_append, List.length_singleton] at a2
      exact ⟨a1, by show _ ≤ _ + 1 + max (vdepth v) (vdepthL vs); omega⟩
    · split at h
      · rename_i e2 he
        cases h
        obtain ⟨a1, a2⟩ := wL_err g vs (i + 1) p e ov.2 (by omega) (by omega) hp he
        exact ⟨a1, by show _ ≤ _ + 1 + max (vdepth v) (vdepthL vs); omega⟩
      · cases h
theorem wP_err {d : Nat} {f : Val → List Key → Except WErr RawV} {o : Wo} (g : WBad d f) : ∀ (qs : List (Key × Val)) (p : List Key) (acc : List Str) (e : WErr), (∀ q ∈ qs, KOk q.1 ∧ VOk q.2 ∧ vdepth q.2 < d ∧ vparts q.2 ≤ 100000) → (∀ k ∈ p, KOk k) → wP f o qs p acc = .error e →
    (∀ k ∈ e.2, KOk k) ∧ e.2.length ≤ p.length + 1 + vdepthL (qs.map (·.2))
  | [], p, acc, e, _, _, h => by cases h
  | q :: qs, p, acc, e, ok, hp, h => by
    obtain ⟨k1, k2, k3, k4⟩ := ok q (List.mem_cons_self ..)
    rw [wP] at h
    split at h
    · cases h
      exact ⟨keys_snoc hp k1, by show (p ++ [q.1]).length ≤ _; rw [List.length_append, List.length_singleton]; omega⟩
    · split at h
      · rename_i e2 he
        cases h
        obtain ⟨a1, a2⟩ := g q.2 _ e k2 k3 k4 (keys_snoc hp k1) he
        rw [List.length_append, List.length_singleton] at a2
        exact ⟨a1, by show _ ≤ _ + 1 + max (vdepth q.2) (vdepthL (qs.map (·.2))); omega⟩
      · split at h
        · rename_i e2 he
          cases h
          obtain ⟨a1, a2⟩ := wP_err g qs p _ e (fun x hx => ok x (List.mem_cons_of_mem _ hx)) hp he
          exact ⟨a1, by show _ ≤ _ + 1 + max (vdepth q.2) (vdepthL (qs.map (·.2))); omega⟩
        · cases h
theorem wK_err {o : Wo} : ∀ (ps : List (Key × Val)) (k : Key), wK o ps = .error k → ∃ v, (k, v) ∈ ps
  | [], k, e => by cases e
  | q :: ps, k, e => by
    rw [wK] at e
    split at e
    · obtain ⟨v, hv⟩ := wK_err ps k e; exact ⟨v, List.mem_cons_of_mem _ hv⟩
    · split at e
      · cases e; exact ⟨q.2, List.mem_cons_self ..⟩
      · split at e
        · rename_i k2 hk; cases e; obtain ⟨v, hv⟩ := wK_err ps k hk; exact ⟨v, List.mem_cons_of_mem _ hv⟩
        · cases e
theorem wrt_err (o : Wo) : ∀ n, WBad n (wrt o n)
  | 0 => fun v p w _ h => absurd h (Nat.not_lt_zero _)
  | n + 1 => fun v p e h hd np hp he => by
    have row : ∀ vs, VOkL vs → 1 + vdepthL vs < n + 1 → 1 + vpartsL vs ≤ 100000 → wR (wrt o n) vs p = .error e → (∀ k ∈ e.2, KOk k) ∧ e.2.length ≤ p.length + (1 + vdepthL vs) := fun vs ov dv pv he => by
      unfold wR at he
      split at he
      · rename_i e2 he2
        cases he
        obtain ⟨a1, a2⟩ := wL_err (wrt_err o n) vs 0 p e ov (by omega) (by omega) hp he2
        exact ⟨a1, by omega⟩
      · cases he
    cases v with
    | non => cases he
    | bl b => cases he
    | str z => cases he
    | int i =>
      have he : wI o i p = .error e := he
      unfold wI at he
      split at he
      · split at he
        · cases he; exact ⟨hp, Nat.le_add_right ..⟩
        · cases he
      · cases he
    | lst vs => exact row vs h hd np he
    | tup vs =>
      rw [wrt] at he
      try dsimp only at he
      split at he
      · cases he; exact ⟨hp, Nat.le_add_right ..⟩
      · exact row vs h hd np he
    | tab ks vs =>
      have hd : 1 + vdepthL vs < n + 1 := hd
      have np : 1 + vpartsL vs ≤ 100000 := np
      rw [wrt] at he
      try dsimp only at he
      unfold wT at he
      split at he
      · rename_i k hk
        cases he
        obtain ⟨v, hv⟩ := wK_err _ _ hk
        exact ⟨keys_snoc hp (h.2.2.1 _ (List.of_mem_zip hv).1), by show (p ++ [k]).length ≤ _ + (1 + vdepthL vs); rw [List.length_append, List.length_singleton]; omega⟩
      · rename_i qs hq
        obtain ⟨k1, k2, k3, k4⟩ := wKS (o := o) h.2.1 h.1 h.2.2.1 hq
        split at he
        · rename_i e2 he2
          cases he
          obtain ⟨a1, a2⟩ := wP_err (wrt_err o n) _ p [] e (fun q hq => ⟨(k1 q hq).1, (k1 q hq).2.1, by have := (k1 q hq).2.2.1; omega, by have := (k1 q hq).2.2.2; omega⟩) hp he2
          exact ⟨a1, by show _ ≤ _ + (1 + vdepthL vs); omega⟩
        · cases he
/-! ### values without tables -/
mutual
def noTab : Val → Prop
  | .lst vs => noTabL vs
  | .tup vs => noTabL vs
  | .tab _ _ => False
  | .non => True
  | .bl _ => True
  | .int _ => True
  | .str _ => True
def noTabL : List Val → Prop
  | [] => True
  | v :: vs => noTab v ∧ noTabL vs
end
theorem noTabL_get : ∀ {vs : List Val} {i : Nat} {v : Val}, noTabL vs → vs[i]? = some v → noTab v
  | u :: vs, 0, v, h, e => by cases e; exact h.1
  | u :: vs, i + 1, v, h, e => noTabL_get (i := i) h.2 (by simpa using e)
  | [], i, v, h, e => by simp at e
theorem noTabL_snoc : ∀ {vs : List Val} {v : Val}, noTabL vs → noTab v → noTabL (vs ++ [v])
  | [], v, h, g => ⟨g, trivial⟩
  | u :: vs, v, h, g => ⟨h.1, noTabL_snoc h.2 g⟩
theorem noTab_leaf {v : Val} (h : leafV v) : noTab v := by cases v <;> first | trivial | exact h.elim
def longW : Val → Bool
  | .int i => longI i
  | _ => false
mutual
theorem vT_D {C : Addr} : ∀ v : Val, VOk v → noTab v → ∃ d, toD (vT C v) = some d ∧ PyData.canLay0 d = true ∧ PyData.depth d ≤ vdepth v + 1 ∧ PyData.eqv d d = true
  | .non, _, _ => ⟨.none, rfl, rfl, by simp [PyData.depth], by simp [PyData.eqv]⟩
  | .bl b, _, _ => ⟨.bool b, rfl, rfl, by simp [PyData.depth], by simp [PyData.eqv]⟩
  | .int n, _, _ => ⟨.int n, rfl, rfl, by simp [PyData.depth], by simp [PyData.eqv]⟩
  | .str z, h, _ => ⟨.str z, rfl, KB.pr_strOk h.1, by simp [PyData.depth], by simp [PyData.eqv]⟩
  | .lst xs, h, g => by
    obtain ⟨ds, e, h1, h2, h3⟩ := vTL_D (C := C) xs h g
    refine ⟨.list ds, by simp only [vT, toD, e]; rfl, h1, ?_, ?_⟩
    · show PyData.depthAll ds + 1 ≤ (1 + vdepthL xs) + 1
      omega
    · simp [PyData.eqv, h3]
  | .tup xs, h, g => by
    obtain ⟨ds, e, h1, h2, h3⟩ := vTL_D (C := C) xs h g
    refine ⟨.tuple ds, by simp only [vT, toD, e]; rfl, h1, ?_, ?_⟩
    · show PyData.depthAll ds + 1 ≤ (1 + vdepthL xs) + 1
      omega
    · simp [PyData.eqv, h3]
  | .tab ks xs, _, g => g.elim
theorem vTL_D {C : Addr} : ∀ xs : List Val, VOkL xs → noTabL xs → ∃ ds, toDs (vTL C xs) = some ds ∧ PyData.canLayAll0 ds = true ∧ PyData.depthAll ds ≤ vdepthL xs + 1 ∧ PyData.eqvAll ds ds = true
  | [], _, _ => ⟨[], rfl, rfl, by simp [PyData.depthAll], by simp [PyData.eqvAll]⟩
  | x :: xs, h, g => by
    obtain ⟨d, e, h1, h2, h3⟩ := vT_D (C := C) x h.1 g.1
    obtain ⟨ds, e', g1, g2, g3⟩ := vTL_D (C := C) xs h.2 g.2
    refine ⟨d :: ds, by simp only [vTL, toDs, e, e'], ?_, ?_, ?_⟩
    · show (PyData.canLay0 d && PyData.canLayAll0 ds) = true
      rw [h1, g1]; rfl
    · show max (PyData.depth d) (PyData.depthAll ds) ≤ max (vdepth x) (vdepthL xs) + 1
      omega
    · rw [PyData.eqvAll, h3, g3]; rfl
end
theorem vT_eq {C : Addr} {v : Val} {n : Bool} (h : VOk v) (g : noTab v) (hd : vdepth v ≤ 60) : gEq n (vT C v) (vT C v) (.bl (n ^^ true)) := by
  obtain ⟨d, e, h1, h2, h3⟩ := vT_D (C := C) v h g
  have s : SeqAt.shaped d = true := by
    show (PyData.canLay0 d && decide (PyData.depth d ≤ 64)) = true
    rw [h1, decide_eq_true (by omega)]; rfl
  cases v with
  | lst vs => exact .inr ⟨rfl, d, d, e, e, s, s, by rw [h3]⟩
  | tup vs => exact .inr ⟨rfl, d, d, e, e, s, s, by rw [h3]⟩
  | tab ks vs => exact g.elim
  | non => exact .inl ⟨true, rfl, rfl⟩
  | bl b => exact .inl ⟨true, by simp [vT, eqF], rfl⟩
  | int i => exact .inl ⟨true, by simp [vT, eqF], rfl⟩
  | str z => exact .inl ⟨true, by simp [vT, eqF], rfl⟩
theorem wI_cases (o : Wo) (i : Int) (p : List Key) : wI o i p = (if longI i = true ∧ ¬ o.longs = "keep" then (if o.longs = "refuse" then .error ("long", p) else .ok (.str (intS i))) else .ok (.int i)) := rfl
end KQ
namespace KQ
open PySem PySem.Spec PyProof.Rows L2 TL KB
section
variable {fb : PySem.W.Frag → List Bool} {fn : List He.DefD} {K : PySem.W.Frag}
theorem SaysB.fact (c : SaysB fb fn K) (i : Nat) {b : Bool} (h : (fb K)[i]? = some b) : b = true := by
  have c1 := (He.ba (show ((fb K).all id && fn.all fun d => d.ok K) = true from congrArg (fun z : AlB => z.1) c)).1
  exact List.all_eq_true.mp c1 b (List.mem_of_getElem? h)
theorem SaysB.at (c : SaysB fb fn K) (i : Nat) {p : Prop} [d : Decidable p] (h : (fb K)[i]? = some (decide p)) : p := of_decide_eq_true (c.fact i h)
theorem SaysB.def_ (c : SaysB fb fn K) (i : Nat) {d : He.DefD} (h : fn[i]? = some d) : ∃ fd, FunD K d.name d.qual d.params d.body d.scope (d.dvs K) (d.kws K) (He.fAd K d.at_) fd := by
  have c2 := (He.ba (show ((fb K).all id && fn.all fun d => d.ok K) = true from congrArg (fun z : AlB => z.1) c)).2
  have e : fn.map (fun d => He.fnW K d.at_) = fn.map He.DefD.val := congrArg (fun z : AlB => z.2) c
  have e2 : (fn.map fun d => He.fnW K d.at_)[i]? = (fn.map He.DefD.val)[i]? := by rw [e]
  rw [List.getElem?_map, List.getElem?_map, h] at e2
  exact He.DefD.funD (Option.some.inj e2) (List.all_eq_true.mp c2 d (List.mem_of_getElem? h))
end
theorem oexB_ok {K : PySem.W.Frag} {C : Addr} (q : oexB K C = true) : ∃ nm q N bs bm sn sub ab col dd k0 k1 k2 k3 k5, K.lookup C = some (excClassObj nm q C N bs bm true sn sub ab col dd k0 k1 k2 k3 k5 "ValueError.__new__") ∧ PySem.HandSPX.refsVE bm = true := by
  unfold oexB at q
  split at q
  · rename_i dd cd sl ho
    split at q
    · rename_i C' bm k0 k1 k2 k3 n k5 hm hs
      simp only [Bool.and_eq_true, beq_iff_eq, Bool.not_eq_true'] at q
      obtain ⟨⟨⟨⟨rfl, rfl⟩, hdel⟩, hdc⟩, ht⟩ := q
      obtain ⟨nm, bs, mro, ns, qn, hd, sn, sub, ab, col, del⟩ := cd
      dsimp only at hm hdel hdc
      subst hm hdel hdc
      have hsl : sl = #[k0, k1, k2, k3, some (.builtin "ValueError.__new__"), k5] := by
        obtain ⟨l⟩ := sl
        simp only at hs
        rw [hs]
      subst hsl
      exact ⟨nm, qn, ns, bs, bm, sn, sub, ab, col, dd, k0, k1, k2, k3, k5, ho, ht⟩
    · cases q
  · cases q
theorem fun_of {K : PySem.W.Frag} {x q : Str} {st : Stmt} {f : Addr} {fd : FuncData} (F : FunD K x q (defArgs st) (defBody st) (defScope st) [] [] f fd) : Fun K x q st f fd := by
  obtain ⟨⟨oc, od, dV, kV, doc, pm, an, cdv, ct, osl, e, lk, hc, hd, hk⟩, kp⟩ := F
  rcases hd with ⟨_, rfl⟩ | ⟨h, _⟩
  · exact ⟨⟨oc, od, kV, doc, pm, an, cdv, ct, osl, e, lk, hc⟩, kp⟩
  · exact absurd rfl h
/-! constants of the module -/
mutual
def Cs.tr : Cs → Tr
  | .non => .non
  | .bl b => .bl b
  | .int n => .int n
  | .str z => .str z
  | .tup xs => .tup (Cs.trs xs)
def Cs.trs : List Cs → List Tr
  | [] => []
  | x :: xs => x.tr :: Cs.trs xs
end
mutual
theorem csB_ok {K : PySem.W.Frag} : ∀ (t : Cs) (u : Value), csB K t u = true → ∃ v, RelV v u ∧ ∀ I, Rep K I t.tr v
  | .non, u, h => by
    cases u with
    | none => exact ⟨.non, rfl, fun _ => rfl⟩
    | _ => cases h
  | .bl b, u, h => by
    cases u with
    | bool c => exact ⟨.bl b, by rw [eq_of_beq (show (b == c) = true from h)]; rfl, fun _ => rfl⟩
    | _ => cases h
  | .int n, u, h => by
    cases u with
    | int m t => exact ⟨.int n, ⟨t, by rw [of_decide_eq_true (show decide (n = m) = true from h)]⟩, fun _ => rfl⟩
    | _ => cases h
  | .str z, u, h => by
    cases u with
    | str m t => exact ⟨.str z, ⟨t, by rw [of_decide_eq_true (show decide (z = m) = true from h)]⟩, fun _ => rfl⟩
    | _ => cases h
  | .tup xs, u, h => by
    cases u with
    | ref a =>
      have h' : (match K.lookup a with
        | some ⟨.type c, _, .seq its _, _⟩ => decide (c = "tuple") && (decide (its.size ≤ sizeLine) && csL K xs its.toList)
        | _ => false) = true := h
      clear h
      split at h'
      · rename_i c d its n sl q
        obtain ⟨h1, h2⟩ := He.ba h'
        obtain ⟨h3, h4⟩ := He.ba h2
        obtain ⟨vs, r, hr⟩ := csL_ok xs its.toList h4
        have e1 : c = "tuple" := of_decide_eq_true h1
        subst e1
        exact ⟨.ref a, rfl, fun I => tup_rep (us := its.toList) (by rw [q]) r hr (by simpa using of_decide_eq_true h3) I⟩
      · cases h'
    | _ => cases h
theorem csL_ok {K : PySem.W.Frag} : ∀ (xs : List Cs) (us : List Value), csL K xs us = true → ∃ vs, Vals vs us ∧ ∀ I, RepL K I (Cs.trs xs) vs
  | [], us, h => by
    replace h : us.isEmpty = true := h
    rw [List.isEmpty_iff.mp h]
    exact ⟨[], .nil, fun _ => rfl⟩
  | x :: xs, us, h => by
    cases us with
    | nil => cases h
    | cons u us =>
      obtain ⟨h1, h2⟩ := He.ba (show (csB K x u && csL K xs us) = true from h)
      obtain ⟨v, r1, q1⟩ := csB_ok x u h1
      obtain ⟨vs, r2, q2⟩ := csL_ok xs us h2
      exact ⟨v :: vs, .cons r1 r2, fun I => .cons (q1 I) (q2 I)⟩
end
theorem gloB_ok {K : PySem.W.Frag} {h : Heap} {mg : Str → Option Value} {x : Str} {t : Cs} (X : K.In h) (G : h.Ns mainGlobals mg) (c : gloB K x t = true) : ∃ v u, mg x = some u ∧ RelV v u ∧ ∀ I, Rep K I t.tr v := by
  unfold gloB at c
  split at c
  · rename_i u e
    obtain ⟨v, r, q⟩ := csB_ok t u c
    exact ⟨v, u, PySem.W.mg_of X G e, r, q⟩
  · cases c
theorem conC_ok {K : PySem.W.Frag} {C : Addr} {f : Str} {t : Cs} (r : PySem.W.readsIn K C (.type "type") = true) (g : PySem.W.specialIn K (.ref C) "__getattribute__" = some (some (.builtin "type.__getattribute__"))) (c : conC K C f t = true) : CvF K C f t.tr := by
  unfold conC at c
  split at c
  · rename_i u e
    obtain ⟨v, rv, q⟩ := csB_ok t u c
    exact ⟨⟨_, v, u, ⟨r, g⟩, ⟨e, rv⟩, q⟩⟩
  · cases c
theorem nilB_ok {K : PySem.W.Frag} {a : Addr} (h : nilB K a = true) (I : Hp) : Rep K I (.tup []) (.ref a) := by
  unfold nilB at h
  split at h
  · rename_i c d its n sl q
    obtain ⟨h1, h2⟩ := He.ba h
    have e1 : c = "tuple" := of_decide_eq_true h1
    have e2 : its = #[] := by
      obtain ⟨l⟩ := its
      have : l = [] := List.isEmpty_iff.mp h2
      rw [this]
    subst e1 e2
    exact nil_tup q I
  · cases h
/-- a law's end over a head by facts, what it may let out by the world -/
theorem walk_ofW {l : PySem.W.OpenLaw} {n k : Nat} {q : Program} {loose : List Str} {XP : (Str → Option Value) → Heap → Prop} {YP : World → Heap → Prop} {d : DefRec} {CX : World → CXT} {x : Str}
    (hn : l.most = some n) (hn2 : n ≤ sizeLine) (hdf : d.params.defaults = []) (hr : Room k callerA)
    (F : ∀ (w : World) (mg : Str → Option Value) (fa : Addr) (h : Heap), YP w h → h.Ns mainGlobals mg → mg d.name = some (.ref fa) →
      ∃ (K : PySem.W.Frag) (fd : FuncData) (sp : Sp), K.In h ∧ (∀ (s : Shared) (u : Value), BindsTo s fd ⟨[u], []⟩ [(x, u)]) ∧
        (∀ (H : Hp) (a : Addr) (ns : List Int), ns.length ≤ n → Only H → SqL K H a (ns.map V.int) → sp [.ref a] H (fun v _ => v = .bl true) fun _ _ _ => False) ∧
        ∀ base : Heap, K.In base → base.Ns mainGlobals mg → FnOk l.prog w K mg base (CX w) k fa fd [x] sp)
    (hCX : ∀ (w : World) (H : Hp) (s : Shared) (e : Value) (s' : Shared), CX w [] H s (fun _ _ _ => False) e s' → False) :
    PySem.W.WalkO q loose XP YP l.row.toRowW d [] (fun f vs => PySem.call f vs) := by
  refine Att.attach_call hn hdf fun w s₀ s₁ mg mb fa o pm cd doc a vs ns G Y ho hd hcd hmg hobj hints hlen hg => ?_
  obtain ⟨K, fd, sp, KX, hb, hsp, hF⟩ := F w mg fa _ Y G.T.g hmg
  exact law_call KX G.T.g G.T.b G.T.builtins G.T.nolimit hg hobj hints (Nat.le_trans hlen hn2) hr hF hb (fun H hO hS => hsp H a ns hlen hO hS) fun H e s' => hCX w H s₁ e s'
end KQ

namespace K21
open PySem PySem.Spec PyProof.Rows L2 KB KQ
structure Adr where
  u : Unit := ()
  Table : Addr
  Writer : Addr
  KeysError : Addr
  BadOption : Addr
  Unwritable : Addr
structure Top (K : PySem.W.Frag) (mg : Str → Option Value) (A : Adr) : Prop where
  b : Bi mg
  d__law_built : Def K mg "_law_built" s__law_built
  d__law_long : Def K mg "_law_long" s__law_long
  d__law_due : Def K mg "_law_due" s__law_due
  d__law_atoms : Def K mg "_law_atoms" s__law_atoms
  d__law_path_is : Def K mg "_law_path_is" s__law_path_is
  d__law_pair : Def K mg "_law_pair" s__law_pair
  d__law_raw_alike : Def K mg "_law_raw_alike" s__law_raw_alike
  d__law_raw_agrees : Def K mg "_law_raw_agrees" s__law_raw_agrees
  d_is_integer : Def K mg "is_integer" s_is_integer
  m_Writer_raw_pairs : DefM K A.Writer "raw_pairs" "Writer.raw_pairs" s_Writer_raw_pairs []
  m_Unwritable___init__ : DefM K A.Unwritable "__init__" "Unwritable.__init__" s_Unwritable___init__ []
  m_Writer_raw_at : DefM K A.Writer "raw_at" "Writer.raw_at" s_Writer_raw_at []
  m_Writer_raw : DefM K A.Writer "raw" "Writer.raw" s_Writer_raw []
  d__law_raw_of : Def K mg "_law_raw_of" s__law_raw_of
  d__law_more : Def K mg "_law_more" s__law_more
  d__law_draw : Def K mg "_law_draw" s__law_draw
  d__law_number : Def K mg "_law_number" s__law_number
  d__law_sign : Def K mg "_law_sign" s__law_sign
  d__law_text : Def K mg "_law_text" s__law_text
  d__law_leaf : Def K mg "_law_leaf" s__law_leaf
  d__law_near_long : Def K mg "_law_near_long" s__law_near_long
  d__law_rows : Def K mg "_law_rows" s__law_rows
  d__law_source : Def K mg "_law_source" s__law_source
  m_BadOption___init__ : DefM K A.BadOption "__init__" "BadOption.__init__" s_BadOption___init__ []
  d_check_options : Def K mg "check_options" s_check_options
  m_Writer___init__ : DefMK K A.Writer "__init__" "Writer.__init__" s_Writer___init__ [("number_keys", .str "text"), ("tuples", .str "list"), ("nulls", .str "keep"), ("double_keys", .str "keep"), ("order", .str "keep"), ("long_numbers", .str "keep")]
  d__law_writer : Def K mg "_law_writer" s__law_writer
  d__law_pick : Def K mg "_law_pick" s__law_pick
  d__law_writing : Def K mg "_law_writing" s__law_writing
  d_law : Def K mg "law" s_law
  c_Table : ClsTop K mg "Table" A.Table
  c_Writer : ClsTop K mg "Writer" A.Writer
  c_KeysError : XTop mg "KeysError" A.KeysError
  c_BadOption : XTop mg "BadOption" A.BadOption
  c_Unwritable : XTop mg "Unwritable" A.Unwritable
  ox_BadOption : OexC K A.BadOption
  ox_Unwritable : OexC K A.Unwritable
  k_NoneType_Table : PySem.W.kitOne K (.type "NoneType") (.ref A.Table) = some false
  k_bool_Table : PySem.W.kitOne K (.type "bool") (.ref A.Table) = some false
  k_Table_bool : PySem.W.kitOne K (.ref A.Table) (.type "bool") = some false
  k_int_Table : PySem.W.kitOne K (.type "int") (.ref A.Table) = some false
  k_Table_int : PySem.W.kitOne K (.ref A.Table) (.type "int") = some false
  k_str_Table : PySem.W.kitOne K (.type "str") (.ref A.Table) = some false
  k_Table_str : PySem.W.kitOne K (.ref A.Table) (.type "str") = some false
  k_list_Table : PySem.W.kitOne K (.type "list") (.ref A.Table) = some false
  k_Table_list : PySem.W.kitOne K (.ref A.Table) (.type "list") = some false
  k_tuple_Table : PySem.W.kitOne K (.type "tuple") (.ref A.Table) = some false
  k_Table_tuple : PySem.W.kitOne K (.ref A.Table) (.type "tuple") = some false
  k_dict_Table : PySem.W.kitOne K (.type "dict") (.ref A.Table) = some false
  k_Table_Table : PySem.W.kitOne K (.ref A.Table) (.ref A.Table) = some true
  k_Table_Writer : PySem.W.kitOne K (.ref A.Table) (.ref A.Writer) = some false
  f_Writer_number_keys : ClsF K A.Writer "number_keys"
  f_Writer_tuples : ClsF K A.Writer "tuples"
  f_Writer_nulls : ClsF K A.Writer "nulls"
  f_Writer_double_keys : ClsF K A.Writer "double_keys"
  f_Writer_order : ClsF K A.Writer "order"
  f_Writer_long_numbers : ClsF K A.Writer "long_numbers"
  k_NoneType_Writer : PySem.W.kitOne K (.type "NoneType") (.ref A.Writer) = some false
  k_bool_Writer : PySem.W.kitOne K (.type "bool") (.ref A.Writer) = some false
  k_Writer_bool : PySem.W.kitOne K (.ref A.Writer) (.type "bool") = some false
  k_int_Writer : PySem.W.kitOne K (.type "int") (.ref A.Writer) = some false
  k_Writer_int : PySem.W.kitOne K (.ref A.Writer) (.type "int") = some false
  k_str_Writer : PySem.W.kitOne K (.type "str") (.ref A.Writer) = some false
  k_Writer_str : PySem.W.kitOne K (.ref A.Writer) (.type "str") = some false
  k_list_Writer : PySem.W.kitOne K (.type "list") (.ref A.Writer) = some false
  k_Writer_list : PySem.W.kitOne K (.ref A.Writer) (.type "list") = some false
  k_tuple_Writer : PySem.W.kitOne K (.type "tuple") (.ref A.Writer) = some false
  k_Writer_tuple : PySem.W.kitOne K (.ref A.Writer) (.type "tuple") = some false
  k_dict_Writer : PySem.W.kitOne K (.type "dict") (.ref A.Writer) = some false
  k_Writer_Table : PySem.W.kitOne K (.ref A.Writer) (.ref A.Table) = some false
  k_Writer_Writer : PySem.W.kitOne K (.ref A.Writer) (.ref A.Writer) = some true
  cv_Writer_DIGITS : CvF K A.Writer "DIGITS" (.int 15)
  xc_BadOption : ExcC K A.BadOption
  nf_BadOption_name : PySem.W.findIn K (.ref A.BadOption) "name" = some none
  nf_BadOption_value : PySem.W.findIn K (.ref A.BadOption) "value" = some none
  em_BadOption_KeysError : PySem.W.exmOne K (.ref A.BadOption) (.ref A.KeysError) = some true
  em_BadOption_Unwritable : PySem.W.exmOne K (.ref A.BadOption) (.ref A.Unwritable) = some false
  xc_Unwritable : ExcC K A.Unwritable
  nf_Unwritable_reason : PySem.W.findIn K (.ref A.Unwritable) "reason" = some none
  nf_Unwritable_path : PySem.W.findIn K (.ref A.Unwritable) "path" = some none
  em_Unwritable_KeysError : PySem.W.exmOne K (.ref A.Unwritable) (.ref A.KeysError) = some true
  em_Unwritable_Unwritable : PySem.W.exmOne K (.ref A.Unwritable) (.ref A.Unwritable) = some true
  g_WRITER_OPTIONS : ∃ v u, mg "WRITER_OPTIONS" = some u ∧ RelV v u ∧ ∀ I, Rep K I (.tup [.tup [.str "number_keys", .tup [.str "text", .str "skip", .str "refuse"]], .tup [.str "tuples", .tup [.str "list", .str "refuse"]], .tup [.str "nulls", .tup [.str "keep", .str "skip"]], .tup [.str "double_keys", .tup [.str "keep", .str "refuse"]], .tup [.str "order", .tup [.str "keep", .str "rising"]], .tup [.str "long_numbers", .tup [.str "keep", .str "text", .str "refuse"]]]) v
theorem Top.facts {K : PySem.W.Frag} {mg : Str → Option Value} {A : Adr} (T : Top K mg A) : ClsI K A.Table ∧ PySem.W.kitOne K (.type "NoneType") (.ref A.Table) = some false ∧ PySem.W.kitOne K (.type "bool") (.ref A.Table) = some false ∧ PySem.W.kitOne K (.ref A.Table) (.type "bool") = some false ∧ PySem.W.kitOne K (.type "int") (.ref A.Table) = some false ∧ PySem.W.kitOne K (.ref A.Table) (.type "int") = some false ∧ PySem.W.kitOne K (.type "str") (.ref A.Table) = some false ∧ PySem.W.kitOne K (.ref A.Table) (.type "str") = some false ∧ PySem.W.kitOne K (.type "list") (.ref A.Table) = some false ∧ PySem.W.kitOne K (.ref A.Table) (.type "list") = some false ∧ PySem.W.kitOne K (.type "tuple") (.ref A.Table) = some false ∧ PySem.W.kitOne K (.ref A.Table) (.type "tuple") = some false ∧ PySem.W.kitOne K (.type "dict") (.ref A.Table) = some false ∧ PySem.W.kitOne K (.ref A.Table) (.ref A.Table) = some true ∧ PySem.W.kitOne K (.ref A.Table) (.ref A.Writer) = some false ∧ ClsI K A.Writer ∧ ClsF K A.Writer "number_keys" ∧ ClsF K A.Writer "tuples" ∧ ClsF K A.Writer "nulls" ∧ ClsF K A.Writer "double_keys" ∧ ClsF K A.Writer "order" ∧ ClsF K A.Writer "long_numbers" ∧ PySem.W.kitOne K (.type "NoneType") (.ref A.Writer) = some false ∧ PySem.W.kitOne K (.type "bool") (.ref A.Writer) = some false ∧ PySem.W.kitOne K (.ref A.Writer) (.type "bool") = some false ∧ PySem.W.kitOne K (.type "int") (.ref A.Writer) = some false ∧ PySem.W.kitOne K (.ref A.Writer) (.type "int") = some false ∧ PySem.W.kitOne K (.type "str") (.ref A.Writer) = some false ∧ PySem.W.kitOne K (.ref A.Writer) (.type "str") = some false ∧ PySem.W.kitOne K (.type "list") (.ref A.Writer) = some false ∧ PySem.W.kitOne K (.ref A.Writer) (.type "list") = some false ∧ PySem.W.kitOne K (.type "tuple") (.ref A.Writer) = some false ∧ PySem.W.kitOne K (.ref A.Writer) (.type "tuple") = some false ∧ PySem.W.kitOne K (.type "dict") (.ref A.Writer) = some false ∧ PySem.W.kitOne K (.ref A.Writer) (.ref A.Table) = some false ∧ PySem.W.kitOne K (.ref A.Writer) (.ref A.Writer) = some true ∧ CvF K A.Writer "DIGITS" (.int 15) ∧ ExcC K A.BadOption ∧ PySem.W.findIn K (.ref A.BadOption) "name" = some none ∧ PySem.W.findIn K (.ref A.BadOption) "value" = some none ∧ PySem.W.exmOne K (.ref A.BadOption) (.ref A.KeysError) = some true ∧ PySem.W.exmOne K (.ref A.BadOption) (.ref A.Unwritable) = some false ∧ ExcC K A.Unwritable ∧ PySem.W.findIn K (.ref A.Unwritable) "reason" = some none ∧ PySem.W.findIn K (.ref A.Unwritable) "path" = some none ∧ PySem.W.exmOne K (.ref A.Unwritable) (.ref A.KeysError) = some true ∧ PySem.W.exmOne K (.ref A.Unwritable) (.ref A.Unwritable) = some true :=
  ⟨T.c_Table.ci, T.k_NoneType_Table, T.k_bool_Table, T.k_Table_bool, T.k_int_Table, T.k_Table_int, T.k_str_Table, T.k_Table_str, T.k_list_Table, T.k_Table_list, T.k_tuple_Table, T.k_Table_tuple, T.k_dict_Table, T.k_Table_Table, T.k_Table_Writer, T.c_Writer.ci, T.f_Writer_number_keys, T.f_Writer_tuples, T.f_Writer_nulls, T.f_Writer_double_keys, T.f_Writer_order, T.f_Writer_long_numbers, T.k_NoneType_Writer, T.k_bool_Writer, T.k_Writer_bool, T.k_int_Writer, T.k_Writer_int, T.k_str_Writer, T.k_Writer_str, T.k_list_Writer, T.k_Writer_list, T.k_tuple_Writer, T.k_Writer_tuple, T.k_dict_Writer, T.k_Writer_Table, T.k_Writer_Writer, T.cv_Writer_DIGITS, T.xc_BadOption, T.nf_BadOption_name, T.nf_BadOption_value, T.em_BadOption_KeysError, T.em_BadOption_Unwritable, T.xc_Unwritable, T.nf_Unwritable_reason, T.nf_Unwritable_path, T.em_Unwritable_KeysError, T.em_Unwritable_Unwritable⟩
theorem e_g_WRITER_OPTIONS {X : Cx} {W : WX} {A : Adr} {pos : Pos} (T : Top X.K X.mg A) (hg : Gl X "WRITER_OPTIONS" := by rfl) : TPE X W (.Name "WRITER_OPTIONS" pos) (uC (.tup [.tup [.str "number_keys", .tup [.str "text", .str "skip", .str "refuse"]], .tup [.str "tuples", .tup [.str "list", .str "refuse"]], .tup [.str "nulls", .tup [.str "keep", .str "skip"]], .tup [.str "double_keys", .tup [.str "keep", .str "refuse"]], .tup [.str "order", .tup [.str "keep", .str "rising"]], .tup [.str "long_numbers", .tup [.str "keep", .str "text", .str "refuse"]]])) := e_gt hg T.g_WRITER_OPTIONS
local macro_rules | `(tactic| walk_at "vc") => `(tactic| try simp only [KQ.q_uVar, KQ.q_uC, KQ.q_u2, KQ.q_uOp, KQ.q_uUn, KQ.q_uB, KQ.q_uAnd, KQ.q_uOr, KQ.q_uNot, KQ.q_uAndV, KQ.q_uOrV, KQ.q_uNotV, KQ.q_uIf, KQ.q_uNil, KQ.q_uCons, KQ.q_uTup, KQ.q_uLst, KQ.q_uLstC, KQ.q_uCb, KQ.q_uNext, KQ.q_uSeq, KQ.q_uBreak, KQ.q_uCont, KQ.q_uCut, KQ.q_uDrop, KQ.q_uRet, KQ.q_uRetN, KQ.q_uIfS, KQ.q_uNever, KQ.q_uSet, KQ.q_uAsg, KQ.q_uPar, KQ.q_uAug, KQ.q_uFor, KQ.q_uSeqI, KQ.q_uCall, KQ.q_uYes, KQ.q_uLc, KQ.q_uLcC, KQ.q_uPart, KQ.q_uNoPart, KQ.q_uSl, KQ.q_uIsi2, KQ.q_uRng1, KQ.q_uRng2, KQ.q_uStrI, KQ.q_uEnum, KQ.q_uFld, KQ.q_uSFld, KQ.q_uDPut, KQ.q_uLPut, KQ.q_uFrz, KQ.q_uMt, KQ.q_uMm, KQ.q_uForD, KQ.q_uLcD, KQ.q_uMeth, KQ.q_uDNew, KQ.q_uFldAug, KQ.q_uDisp, KQ.q_uIsi1, KQ.q_uOBin, KQ.q_uOIx, KQ.q_uOIn, KQ.q_uOLen, KQ.q_uTry, KQ.q_uXf, KQ.q_uIsE, KQ.q_uRaise, KQ.q_uCallK, KQ.q_uLcX, KQ.q_uNewK, KQ.q_uOEq, KQ.q_uListC, KQ.q_uRev, KQ.q_uEnum2, KQ.q_uZip, KQ.q_uAddC, KQ.q_uFs, KQ.q_uOBin2, KQ.q_uOInv, KQ.q_uCallO, KQ.vw_refE, KQ.vw_non, KQ.vw_bl, KQ.vw_int, KQ.vw_str, KQ.vw_ty, KQ.vw_lstE, KQ.vw_tupE, KQ.vw_scrE, KQ.vw_dicE, KQ.vw_insE, KQ.put_sameE, KQ.put_putE, KQ.getD_some, KQ.pat_nm, KQ.pat_tp, KQ.pats_nil, KQ.pats_cons, KQ.bind_s, KQ.loop_nil, KQ.loop_cons, KQ.lcl_nil, KQ.lcl_cons, KQ.prs_nil, KQ.prs_cons, KQ.add_ii, KQ.add_ss, KQ.add_ll, KQ.add_tt, KQ.int2_ii, KQ.mul_ii, KQ.mul_li, KQ.mul2_ii, KQ.mul2_li, KQ.mul2_si, KQ.js_nil, KQ.js_cons, KQ.fmt_s, KQ.fmt_n, KQ.fmt_0s, KQ.fmt_0i, KQ.neg_i, KQ.is_g, KQ.isk_n, KQ.isk_b, KQ.is_nn, KQ.is_bn, KQ.is_in, KQ.is_sn, KQ.is_rn, KQ.is_ln, KQ.is_tn, KQ.is_dn, KQ.is_on, KQ.is_nb, KQ.is_bb, KQ.is_ib, KQ.is_sb, KQ.is_rb, KQ.is_lb, KQ.is_tb, KQ.is_ob, KQ.eq_ii, KQ.eq_ss, KQ.eq_bb, KQ.ix_s, KQ.ix_l, KQ.ix_t, KQ.ix_c, KQ.ix_d, KQ.key_i, KQ.key_s, KQ.at_0, KQ.at_1, KQ.at_2, KQ.in_s, KQ.in_l, KQ.in_t, KQ.in_d, KQ.fl_i, KQ.fl_s, KQ.fl_b, KQ.fl_n, KQ.len_s, KQ.len_l, KQ.len_c, KQ.len_t, KQ.len_d, KQ.abs_i, KQ.int_i, KQ.int_b, KQ.int_s, KQ.str_i, KQ.str_s, KQ.mm_ii, KQ.list_l, KQ.list_t, KQ.list_c, KQ.tuple_l, KQ.tuple_t, KQ.sl_s, KQ.sl_l, KQ.sl_t, KQ.sl_c, KQ.asl_l, KQ.asl_c, KQ.asl_t, KQ.ok_l, KQ.ok_s, KQ.app_1, KQ.ext_1, KQ.ins_1, KQ.pop_1, KQ.join_t, KQ.join_l, KQ.isdig, KQ.rmp, KQ.all_l, KQ.isi_2, KQ.ty_n, KQ.ty_b, KQ.ty_i, KQ.ty_s, KQ.ty_l, KQ.ty_t, KQ.ty_o, KQ.cls_t, KQ.cls_c, KQ.k_ni, KQ.k_ns, KQ.k_nb, KQ.k_nl, KQ.k_nt, KQ.k_bi, KQ.k_bs, KQ.k_bb, KQ.k_bl, KQ.k_bt, KQ.k_ii, KQ.k_is, KQ.k_ib, KQ.k_il, KQ.k_it, KQ.k_si, KQ.k_ss, KQ.k_sb, KQ.k_sl, KQ.k_st, KQ.k_li, KQ.k_ls, KQ.k_lb, KQ.k_ll, KQ.k_lt, KQ.k_ti, KQ.k_ts, KQ.k_tb, KQ.k_tl, KQ.k_tt, KQ.ofS_inj, KQ.fget_c, KQ.fget_n, KQ.fputN_n, KQ.fputN_c, KQ.fputX_n, KQ.fputX_c, KQ.map_vw0, KQ.map_vw, KQ.hX_nil, KQ.hX_only, KQ.hX_named, KQ.len_tf1, KQ.len_tf2, KQ.len_tf3, KQ.clrU_nx, KQ.clrU_rt, KQ.clrU_bk, KQ.clrU_ct, KQ.vw_excE, KQ.atR_e, KQ.wipeR_n, KQ.wipeR_c, KQ.endX_e, KQ.endU_nx, KQ.endU_rt, KQ.srcV_e, KQ.srcF_e, KQ.cmul_rE, KQ.cmul_lE, KQ.cpow_E, KQ.szT0, KQ.szT1, KQ.szT2, KQ.szT3, KQ.szT4, KQ.szT5, KQ.szT6, KQ.szT7, KQ.szT8, KQ.szT0, KQ.ex_sw1, KQ.ex_sw2, KQ.kT_i, KQ.kT_s, KQ.sgn_inj, KQ.vw_kT, KQ.beq_ft, KQ.beq_tf, KQ.pick_nilE, KQ.pick_0E, KQ.pick_1E, KQ.pick_2E, KQ.str4_i, KQ.str4_s, KQ.str4_b, KQ.str4_n, KQ.list3_l, KQ.list3_t, KQ.list3_c, KQ.list3_d, KQ.seqOf_l, KQ.seqOf_t, KQ.seqOf_c, KQ.seqOf_d, KQ.lenE0, KQ.lenE1, KQ.lenE2, KQ.lenE3, KQ.lenE4, KQ.lenE5, KQ.lenE6, KQ.lenE7, KQ.lenE8, KQ.lenE9, KQ.lenE10, KQ.lenS0, KQ.lenS1, KQ.lenS2, KQ.lenS3, KQ.lenS4, KQ.lenS5, KQ.lenS6, KQ.lenS7, KQ.lenS8, KQ.lenS9, KQ.lenS10, KQ.mapS_nil, KQ.mapS_cons, KQ.nil_l, KQ.eqF_g, KQ.eq_nn, KQ.eq_ns, KQ.eq_sn, KQ.eq_ni, KQ.eq_in, KQ.eq_is, KQ.eq_si, KQ.popAt_1, KQ.ix3_0, KQ.ix3_1, KQ.ix3_2, KQ.q_qCell, KQ.upr, KQ.q_uCv, KQ.q_rep4, KQ.q_uAsgL, KQ.q_uPar3, Option.isSome_none, Option.isSome_some, and_assoc, decide_true, decide_false, eq_self, not_true_eq_false, not_false_eq_true, reduceCtorEq, exists_false, or_false, false_or, false_and, and_false, true_and, and_true, true_or, or_true, if_true, if_false, Bool.false_xor, Bool.true_xor, Bool.not_eq_true', decide_eq_false_iff_not, decide_eq_true_eq, Bool.false_eq_true, Bool.not_true, Bool.not_false, ite_true, ite_false, exists_const, List.set_cons_zero, List.set_cons_succ, List.getElem?_cons_zero, List.getElem?_cons_succ, Option.some.injEq, KQ.Tr.int.injEq, KQ.Tr.ref.injEq, KQ.Tr.bl.injEq, KQ.Tr.str.injEq, KQ.Tr.lst.injEq, KQ.Tr.tup.injEq, KQ.Tr.dic.injEq, KQ.Tr.ins.injEq, KQ.Tr.scr.injEq, KQ.Tr.exc.injEq, exists_eq_left', exists_eq_left, exists_eq_right, exists_eq_right', exists_eq, exists_eq', exists_and_left, exists_and_right, List.cons_append, List.nil_append, List.cons.injEq, Int.reduceLT, Int.reduceLE, Int.reduceNeg, Int.reducePow, Int.reduceEq, Int.reduceAdd, Int.reduceSub, Int.reduceMul, KQ.ofS_inj, String.reduceEq, forall_const, false_imp_iff, implies_true, exists_prop, PySem.Value.type.injEq, PySem.Value.ref.injEq, beq_self_eq_true, Bool.or_true, Bool.or_false, Bool.true_or, Bool.false_or, Bool.or_self, forall_eq, forall_eq', and_imp, List.length_map, List.length_append, List.isEmpty_nil, List.isEmpty_cons, KQ.sget_cells, KQ.sget_at, KQ.sget_rest, KQ.sget_seed, KQ.sget_room, KQ.sget_long, KQ.sput_at, KQ.sput_rest, KQ.sput_seed, KQ.sput_room, KQ.sput_long, KQ.sN_at, KQ.sN_rest, KQ.sN_seed, KQ.sN_room, KQ.sN_long, KQ.sk_len, KQ.srcT_eq, KQ.vw_vT, KQ.vw_mT, KQ.q_plN, KQ.vw_labT, KQ.vw_nM, KQ.vw_payT, KQ.vw_seenT, *])
local macro_rules | `(tactic| walk_at "vn") => `(tactic| try simp only [KQ.q_uVar, KQ.q_uC, KQ.q_u2, KQ.q_uOp, KQ.q_uUn, KQ.q_uB, KQ.q_uAnd, KQ.q_uOr, KQ.q_uNot, KQ.q_uAndV, KQ.q_uOrV, KQ.q_uNotV, KQ.q_uIf, KQ.q_uNil, KQ.q_uCons, KQ.q_uTup, KQ.q_uLst, KQ.q_uLstC, KQ.q_uCb, KQ.q_uNext, KQ.q_uSeq, KQ.q_uBreak, KQ.q_uCont, KQ.q_uCut, KQ.q_uDrop, KQ.q_uRet, KQ.q_uRetN, KQ.q_uIfS, KQ.q_uNever, KQ.q_uSet, KQ.q_uAsg, KQ.q_uPar, KQ.q_uAug, KQ.q_uFor, KQ.q_uSeqI, KQ.q_uCall, KQ.q_uYes, KQ.q_uLc, KQ.q_uLcC, KQ.q_uPart, KQ.q_uNoPart, KQ.q_uSl, KQ.q_uIsi2, KQ.q_uRng1, KQ.q_uRng2, KQ.q_uStrI, KQ.q_uEnum, KQ.q_uFld, KQ.q_uSFld, KQ.q_uDPut, KQ.q_uLPut, KQ.q_uFrz, KQ.q_uMt, KQ.q_uMm, KQ.q_uForD, KQ.q_uLcD, KQ.q_uMeth, KQ.q_uDNew, KQ.q_uFldAug, KQ.q_uDisp, KQ.q_uIsi1, KQ.q_uOBin, KQ.q_uOIx, KQ.q_uOIn, KQ.q_uOLen, KQ.q_uTry, KQ.q_uXf, KQ.q_uIsE, KQ.q_uRaise, KQ.q_uCallK, KQ.q_uLcX, KQ.q_uNewK, KQ.q_uOEq, KQ.q_uListC, KQ.q_uRev, KQ.q_uEnum2, KQ.q_uZip, KQ.q_uAddC, KQ.q_uFs, KQ.q_uOBin2, KQ.q_uOInv, KQ.q_uCallO, KQ.vw_refE, KQ.vw_non, KQ.vw_bl, KQ.vw_int, KQ.vw_str, KQ.vw_ty, KQ.vw_lstE, KQ.vw_tupE, KQ.vw_scrE, KQ.vw_dicE, KQ.vw_insE, KQ.put_sameE, KQ.put_putE, KQ.getD_some, KQ.pat_nm, KQ.pat_tp, KQ.pats_nil, KQ.pats_cons, KQ.bind_s, KQ.loop_nil, KQ.lcl_nil, KQ.lcl_cons, KQ.prs_nil, KQ.prs_cons, KQ.add_ii, KQ.add_ss, KQ.add_ll, KQ.add_tt, KQ.int2_ii, KQ.mul_ii, KQ.mul_li, KQ.mul2_ii, KQ.mul2_li, KQ.mul2_si, KQ.js_nil, KQ.js_cons, KQ.fmt_s, KQ.fmt_n, KQ.fmt_0s, KQ.fmt_0i, KQ.neg_i, KQ.is_g, KQ.isk_n, KQ.isk_b, KQ.is_nn, KQ.is_bn, KQ.is_in, KQ.is_sn, KQ.is_rn, KQ.is_ln, KQ.is_tn, KQ.is_dn, KQ.is_on, KQ.is_nb, KQ.is_bb, KQ.is_ib, KQ.is_sb, KQ.is_rb, KQ.is_lb, KQ.is_tb, KQ.is_ob, KQ.eq_ii, KQ.eq_ss, KQ.eq_bb, KQ.ix_s, KQ.ix_l, KQ.ix_t, KQ.ix_c, KQ.ix_d, KQ.key_i, KQ.key_s, KQ.at_0, KQ.at_1, KQ.at_2, KQ.in_s, KQ.in_l, KQ.in_t, KQ.in_d, KQ.fl_i, KQ.fl_s, KQ.fl_b, KQ.fl_n, KQ.len_s, KQ.len_l, KQ.len_c, KQ.len_t, KQ.len_d, KQ.abs_i, KQ.int_i, KQ.int_b, KQ.int_s, KQ.str_i, KQ.str_s, KQ.mm_ii, KQ.list_l, KQ.list_t, KQ.list_c, KQ.tuple_l, KQ.tuple_t, KQ.sl_s, KQ.sl_l, KQ.sl_t, KQ.sl_c, KQ.asl_l, KQ.asl_c, KQ.asl_t, KQ.ok_l, KQ.ok_s, KQ.app_1, KQ.ext_1, KQ.ins_1, KQ.pop_1, KQ.join_t, KQ.join_l, KQ.isdig, KQ.rmp, KQ.all_l, KQ.isi_2, KQ.ty_n, KQ.ty_b, KQ.ty_i, KQ.ty_s, KQ.ty_l, KQ.ty_t, KQ.ty_o, KQ.cls_t, KQ.cls_c, KQ.k_ni, KQ.k_ns, KQ.k_nb, KQ.k_nl, KQ.k_nt, KQ.k_bi, KQ.k_bs, KQ.k_bb, KQ.k_bl, KQ.k_bt, KQ.k_ii, KQ.k_is, KQ.k_ib, KQ.k_il, KQ.k_it, KQ.k_si, KQ.k_ss, KQ.k_sb, KQ.k_sl, KQ.k_st, KQ.k_li, KQ.k_ls, KQ.k_lb, KQ.k_ll, KQ.k_lt, KQ.k_ti, KQ.k_ts, KQ.k_tb, KQ.k_tl, KQ.k_tt, KQ.ofS_inj, KQ.fget_c, KQ.fget_n, KQ.fputN_n, KQ.fputN_c, KQ.fputX_n, KQ.fputX_c, KQ.map_vw0, KQ.map_vw, KQ.hX_nil, KQ.hX_only, KQ.hX_named, KQ.len_tf1, KQ.len_tf2, KQ.len_tf3, KQ.clrU_nx, KQ.clrU_rt, KQ.clrU_bk, KQ.clrU_ct, KQ.vw_excE, KQ.atR_e, KQ.wipeR_n, KQ.wipeR_c, KQ.endX_e, KQ.endU_nx, KQ.endU_rt, KQ.srcV_e, KQ.srcF_e, KQ.cmul_rE, KQ.cmul_lE, KQ.cpow_E, KQ.szT0, KQ.szT1, KQ.szT2, KQ.szT3, KQ.szT4, KQ.szT5, KQ.szT6, KQ.szT7, KQ.szT8, KQ.szT0, KQ.ex_sw1, KQ.ex_sw2, KQ.kT_i, KQ.kT_s, KQ.sgn_inj, KQ.vw_kT, KQ.beq_ft, KQ.beq_tf, KQ.pick_nilE, KQ.pick_0E, KQ.pick_1E, KQ.pick_2E, KQ.str4_i, KQ.str4_s, KQ.str4_b, KQ.str4_n, KQ.list3_l, KQ.list3_t, KQ.list3_c, KQ.list3_d, KQ.seqOf_l, KQ.seqOf_t, KQ.seqOf_c, KQ.seqOf_d, KQ.lenE0, KQ.lenE1, KQ.lenE2, KQ.lenE3, KQ.lenE4, KQ.lenE5, KQ.lenE6, KQ.lenE7, KQ.lenE8, KQ.lenE9, KQ.lenE10, KQ.lenS0, KQ.lenS1, KQ.lenS2, KQ.lenS3, KQ.lenS4, KQ.lenS5, KQ.lenS6, KQ.lenS7, KQ.lenS8, KQ.lenS9, KQ.lenS10, KQ.mapS_nil, KQ.mapS_cons, KQ.nil_l, KQ.eqF_g, KQ.eq_nn, KQ.eq_ns, KQ.eq_sn, KQ.eq_ni, KQ.eq_in, KQ.eq_is, KQ.eq_si, KQ.popAt_1, KQ.ix3_0, KQ.ix3_1, KQ.ix3_2, KQ.q_qCell, KQ.upr, KQ.q_uCv, KQ.q_rep4, KQ.q_uAsgL, KQ.q_uPar3, Option.isSome_none, Option.isSome_some, and_assoc, decide_true, decide_false, eq_self, not_true_eq_false, not_false_eq_true, reduceCtorEq, exists_false, or_false, false_or, false_and, and_false, true_and, and_true, true_or, or_true, if_true, if_false, Bool.false_xor, Bool.true_xor, Bool.not_eq_true', decide_eq_false_iff_not, decide_eq_true_eq, Bool.false_eq_true, Bool.not_true, Bool.not_false, ite_true, ite_false, exists_const, List.set_cons_zero, List.set_cons_succ, List.getElem?_cons_zero, List.getElem?_cons_succ, Option.some.injEq, KQ.Tr.int.injEq, KQ.Tr.ref.injEq, KQ.Tr.bl.injEq, KQ.Tr.str.injEq, KQ.Tr.lst.injEq, KQ.Tr.tup.injEq, KQ.Tr.dic.injEq, KQ.Tr.ins.injEq, KQ.Tr.scr.injEq, KQ.Tr.exc.injEq, exists_eq_left', exists_eq_left, exists_eq_right, exists_eq_right', exists_eq, exists_eq', exists_and_left, exists_and_right, List.cons_append, List.nil_append, List.cons.injEq, Int.reduceLT, Int.reduceLE, Int.reduceNeg, Int.reducePow, Int.reduceEq, Int.reduceAdd, Int.reduceSub, Int.reduceMul, KQ.ofS_inj, String.reduceEq, forall_const, false_imp_iff, implies_true, exists_prop, PySem.Value.type.injEq, PySem.Value.ref.injEq, beq_self_eq_true, Bool.or_true, Bool.or_false, Bool.true_or, Bool.false_or, Bool.or_self, forall_eq, forall_eq', and_imp, List.length_map, List.length_append, List.isEmpty_nil, List.isEmpty_cons, KQ.sget_cells, KQ.sget_at, KQ.sget_rest, KQ.sget_seed, KQ.sget_room, KQ.sget_long, KQ.sput_at, KQ.sput_rest, KQ.sput_seed, KQ.sput_room, KQ.sput_long, KQ.sN_at, KQ.sN_rest, KQ.sN_seed, KQ.sN_room, KQ.sN_long, KQ.sk_len, KQ.srcT_eq, KQ.vw_vT, KQ.vw_mT, KQ.q_plN, KQ.vw_labT, KQ.vw_nM, KQ.vw_payT, KQ.vw_seenT, *])
local macro_rules | `(tactic| walk_at "vl") => `(tactic| try simp only [KQ.q_uVar, KQ.q_uC, KQ.q_u2, KQ.q_uOp, KQ.q_uUn, KQ.q_uB, KQ.q_uAnd, KQ.q_uOr, KQ.q_uNot, KQ.q_uAndV, KQ.q_uOrV, KQ.q_uNotV, KQ.q_uIf, KQ.q_uNil, KQ.q_uCons, KQ.q_uTup, KQ.q_uLst, KQ.q_uLstC, KQ.q_uCb, KQ.q_uNext, KQ.q_uSeq, KQ.q_uBreak, KQ.q_uCont, KQ.q_uCut, KQ.q_uDrop, KQ.q_uRet, KQ.q_uRetN, KQ.q_uIfS, KQ.q_uNever, KQ.q_uSet, KQ.q_uAsg, KQ.q_uPar, KQ.q_uAug, KQ.q_uFor, KQ.q_uSeqI, KQ.q_uCall, KQ.q_uYes, KQ.q_uLc, KQ.q_uLcC, KQ.q_uPart, KQ.q_uNoPart, KQ.q_uSl, KQ.q_uIsi2, KQ.q_uRng1, KQ.q_uRng2, KQ.q_uStrI, KQ.q_uEnum, KQ.q_uFld, KQ.q_uSFld, KQ.q_uDPut, KQ.q_uLPut, KQ.q_uFrz, KQ.q_uMt, KQ.q_uMm, KQ.q_uForD, KQ.q_uLcD, KQ.q_uMeth, KQ.q_uDNew, KQ.q_uFldAug, KQ.q_uDisp, KQ.q_uIsi1, KQ.q_uOBin, KQ.q_uOIx, KQ.q_uOIn, KQ.q_uOLen, KQ.q_uTry, KQ.q_uXf, KQ.q_uIsE, KQ.q_uRaise, KQ.q_uCallK, KQ.q_uLcX, KQ.q_uNewK, KQ.q_uOEq, KQ.q_uListC, KQ.q_uRev, KQ.q_uEnum2, KQ.q_uZip, KQ.q_uAddC, KQ.q_uFs, KQ.q_uOBin2, KQ.q_uOInv, KQ.q_uCallO, KQ.vw_refE, KQ.vw_non, KQ.vw_bl, KQ.vw_int, KQ.vw_str, KQ.vw_ty, KQ.vw_lstE, KQ.vw_tupE, KQ.vw_scrE, KQ.vw_dicE, KQ.vw_insE, KQ.put_sameE, KQ.put_putE, KQ.getD_some, KQ.pat_nm, KQ.pat_tp, KQ.pats_nil, KQ.pats_cons, KQ.bind_s, KQ.loop_nil, KQ.lcl_nil, KQ.lcl_cons, KQ.prs_nil, KQ.prs_cons, KQ.add_ii, KQ.add_ss, KQ.add_ll, KQ.add_tt, KQ.int2_ii, KQ.mul_ii, KQ.mul_li, KQ.mul2_ii, KQ.mul2_li, KQ.mul2_si, KQ.js_nil, KQ.js_cons, KQ.fmt_s, KQ.fmt_n, KQ.fmt_0s, KQ.fmt_0i, KQ.neg_i, KQ.is_g, KQ.isk_n, KQ.isk_b, KQ.is_nn, KQ.is_bn, KQ.is_in, KQ.is_sn, KQ.is_rn, KQ.is_ln, KQ.is_tn, KQ.is_dn, KQ.is_on, KQ.is_nb, KQ.is_bb, KQ.is_ib, KQ.is_sb, KQ.is_rb, KQ.is_lb, KQ.is_tb, KQ.is_ob, KQ.eq_ii, KQ.eq_ss, KQ.eq_bb, KQ.ix_s, KQ.ix_l, KQ.ix_t, KQ.ix_c, KQ.ix_d, KQ.key_i, KQ.key_s, KQ.at_0, KQ.at_1, KQ.at_2, KQ.in_s, KQ.in_l, KQ.in_t, KQ.in_d, KQ.fl_i, KQ.fl_s, KQ.fl_b, KQ.fl_n, KQ.len_s, KQ.len_l, KQ.len_c, KQ.len_t, KQ.len_d, KQ.abs_i, KQ.int_i, KQ.int_b, KQ.int_s, KQ.str_i, KQ.str_s, KQ.mm_ii, KQ.list_l, KQ.list_t, KQ.list_c, KQ.tuple_l, KQ.tuple_t, KQ.sl_s, KQ.sl_l, KQ.sl_t, KQ.sl_c, KQ.asl_l, KQ.asl_c, KQ.asl_t, KQ.ok_l, KQ.ok_s, KQ.app_1, KQ.ext_1, KQ.ins_1, KQ.pop_1, KQ.join_t, KQ.join_l, KQ.isdig, KQ.rmp, KQ.all_l, KQ.isi_2, KQ.ty_n, KQ.ty_b, KQ.ty_i, KQ.ty_s, KQ.ty_l, KQ.ty_t, KQ.ty_o, KQ.cls_t, KQ.cls_c, KQ.k_ni, KQ.k_ns, KQ.k_nb, KQ.k_nl, KQ.k_nt, KQ.k_bi, KQ.k_bs, KQ.k_bb, KQ.k_bl, KQ.k_bt, KQ.k_ii, KQ.k_is, KQ.k_ib, KQ.k_il, KQ.k_it, KQ.k_si, KQ.k_ss, KQ.k_sb, KQ.k_sl, KQ.k_st, KQ.k_li, KQ.k_ls, KQ.k_lb, KQ.k_ll, KQ.k_lt, KQ.k_ti, KQ.k_ts, KQ.k_tb, KQ.k_tl, KQ.k_tt, KQ.ofS_inj, KQ.fget_c, KQ.fget_n, KQ.fputN_n, KQ.fputN_c, KQ.fputX_n, KQ.fputX_c, KQ.map_vw0, KQ.map_vw, KQ.hX_nil, KQ.hX_only, KQ.hX_named, KQ.len_tf1, KQ.len_tf2, KQ.len_tf3, KQ.clrU_nx, KQ.clrU_rt, KQ.clrU_bk, KQ.clrU_ct, KQ.vw_excE, KQ.atR_e, KQ.wipeR_n, KQ.wipeR_c, KQ.endX_e, KQ.endU_nx, KQ.endU_rt, KQ.srcV_e, KQ.srcF_e, KQ.cmul_rE, KQ.cmul_lE, KQ.cpow_E, KQ.szT0, KQ.szT1, KQ.szT2, KQ.szT3, KQ.szT4, KQ.szT5, KQ.szT6, KQ.szT7, KQ.szT8, KQ.szT0, KQ.ex_sw1, KQ.ex_sw2, KQ.kT_i, KQ.kT_s, KQ.sgn_inj, KQ.vw_kT, KQ.beq_ft, KQ.beq_tf, KQ.pick_nilE, KQ.pick_0E, KQ.pick_1E, KQ.pick_2E, KQ.str4_i, KQ.str4_s, KQ.str4_b, KQ.str4_n, KQ.list3_l, KQ.list3_t, KQ.list3_c, KQ.list3_d, KQ.seqOf_l, KQ.seqOf_t, KQ.seqOf_c, KQ.seqOf_d, KQ.lenE0, KQ.lenE1, KQ.lenE2, KQ.lenE3, KQ.lenE4, KQ.lenE5, KQ.lenE6, KQ.lenE7, KQ.lenE8, KQ.lenE9, KQ.lenE10, KQ.lenS0, KQ.lenS1, KQ.lenS2, KQ.lenS3, KQ.lenS4, KQ.lenS5, KQ.lenS6, KQ.lenS7, KQ.lenS8, KQ.lenS9, KQ.lenS10, KQ.mapS_nil, KQ.mapS_cons, KQ.nil_l, KQ.eqF_g, KQ.eq_nn, KQ.eq_ns, KQ.eq_sn, KQ.eq_ni, KQ.eq_in, KQ.eq_is, KQ.eq_si, KQ.popAt_1, KQ.ix3_0, KQ.ix3_1, KQ.ix3_2, KQ.q_qCell, KQ.upr, KQ.q_uCv, KQ.q_rep4, KQ.q_uAsgL, KQ.q_uPar3, Option.isSome_none, Option.isSome_some, and_assoc, decide_true, decide_false, eq_self, not_true_eq_false, not_false_eq_true, reduceCtorEq, exists_false, or_false, false_or, false_and, and_false, true_and, and_true, true_or, or_true, if_true, if_false, Bool.false_xor, Bool.true_xor, Bool.not_eq_true', decide_eq_false_iff_not, decide_eq_true_eq, Bool.false_eq_true, Bool.not_true, Bool.not_false, ite_true, ite_false, exists_const, List.set_cons_zero, List.set_cons_succ, List.getElem?_cons_zero, List.getElem?_cons_succ, Option.some.injEq, KQ.Tr.int.injEq, KQ.Tr.ref.injEq, KQ.Tr.bl.injEq, KQ.Tr.str.injEq, KQ.Tr.lst.injEq, KQ.Tr.tup.injEq, KQ.Tr.dic.injEq, KQ.Tr.ins.injEq, KQ.Tr.scr.injEq, KQ.Tr.exc.injEq, exists_eq_left', exists_eq_left, exists_eq_right, exists_eq_right', exists_eq, exists_eq', exists_and_left, exists_and_right, List.cons_append, List.nil_append, List.cons.injEq, Int.reduceLT, Int.reduceLE, Int.reduceNeg, Int.reducePow, Int.reduceEq, Int.reduceAdd, Int.reduceSub, Int.reduceMul, KQ.ofS_inj, String.reduceEq, forall_const, false_imp_iff, implies_true, exists_prop, PySem.Value.type.injEq, PySem.Value.ref.injEq, beq_self_eq_true, Bool.or_true, Bool.or_false, Bool.true_or, Bool.false_or, Bool.or_self, forall_eq, forall_eq', and_imp, List.length_map, List.length_append, List.isEmpty_nil, List.isEmpty_cons, KQ.sget_cells, KQ.sget_at, KQ.sget_rest, KQ.sget_seed, KQ.sget_room, KQ.sget_long, KQ.sput_at, KQ.sput_rest, KQ.sput_seed, KQ.sput_room, KQ.sput_long, KQ.sN_at, KQ.sN_rest, KQ.sN_seed, KQ.sN_room, KQ.sN_long, KQ.sk_len, KQ.srcT_eq, KQ.vw_vT, KQ.vw_mT, KQ.q_plN, KQ.vw_labT, KQ.vw_nM, KQ.vw_payT, KQ.vw_seenT, KQ.fl_cons, KQ.fl_nil, KQ.iv_cons, KQ.iv_nil, Option.map_some, Bool.or_eq_true, Bool.or_false, Bool.false_or, Bool.true_or, exists_eq_left, exists_eq_left', Bool.or_self, Bool.or_true, *])
local macro_rules | `(tactic| walk_at "mono") => `(tactic| (intro xs S Q Q' X X' hQ hX; (repeat' first | exact fun h => h | exact hQ _ _ | exact hX _ _ _ _ | refine Exists.imp fun _ => ?_ | refine And.imp ?_ ?_ | refine Or.imp ?_ ?_ | refine forall_imp fun _ => ?_)))

section
variable {P : Program} {w : World} {K : PySem.W.Frag} {mg : Str → Option Value} {base : Heap} {A : Adr}
/-! ### _law_built -/
abbrev N__law_built : List Str := ["_law_model", "_law_items", "_law_item"]
theorem sc__law_built : FnScope N__law_built ["_law_model"] (defScope s__law_built) := ⟨rfl, rfl, rfl, by decide +kernel, rfl, by decide +kernel, by decide +kernel⟩
def sp_lbuilt (n : Nat) : TSp := fun xs S Q X => ∃ v : Val, xs = [mT v] ∧ VOk v ∧ noTab v ∧ vdepth v < n ∧ vparts v ≤ 50000 ∧ ∀ D, Q (vT D v) S
mutual
theorem vT_no {C D : Addr} : ∀ v : Val, noTab v → vT C v = vT D v
  | .non, _ => rfl
  | .bl _, _ => rfl
  | .int _, _ => rfl
  | .str _, _ => rfl
  | .lst vs, h => by rw [vT, vT, vTL_no vs h]
  | .tup vs, h => by rw [vT, vT, vTL_no vs h]
  | .tab _ _, h => h.elim
theorem vTL_no {C D : Addr} : ∀ vs : List Val, noTabL vs → vTL C vs = vTL D vs
  | [], _ => rfl
  | v :: vs, h => by rw [vTL, vTL, vT_no v h.1, vTL_no vs h.2]
end
theorem built_rows {n : Nat} {ok : Sto → Prop} {ρ : Rho} {Q : QV} {S : Sto} {vs : List Val} {j : Nat} (h1 : 1 + vdepthL vs < n + 1) (h2 : 1 + vpartsL vs ≤ 50000) (hv : VOkL vs) (nt : noTabL vs) (hok : ∀ S, ok S) (h : Q (.lst (vTL 0 vs)) S) (l : j < ρ.length) :
    uLcL ok (.nm j) uYes (uCall (sp_lbuilt n) (uCons (uVar j) uNil)) ρ Q (mTL vs) [] S := by
  have lx := vpartsL_ge vs
  have e1 : mTL vs = vs.map mT := mTL_map vs
  have e2 : vTL 0 vs = vs.map (vT 0) := vTL_map vs
  rw [e1]
  rw [e2] at h
  refine lc_map vs mT (vT 0) (hok S) (by omega) (fun v hv2 N1 k1 => ?_) h
  obtain ⟨i, hi⟩ := List.mem_iff_getElem?.mp hv2
  have d1 := vdepth_get hi
  have p1 := vparts_get hi
  refine ⟨ρ.set j (some (mT v)), rfl, mT v, by rw [List.getElem?_set_self l], v, rfl, hv.get hi, noTabL_get nt hi, by omega, by omega, fun D => ?_⟩
  rw [vT_no (C := D) (D := 0) v (noTabL_get nt hi)]
  exact k1
theorem step__law_built (T : Top K mg A) {k n : Nat}  (C__law_built : CalleeT P w K mg base k "_law_built" ["_law_model"] (sp_lbuilt n)) : CalleeT P w K mg base (k + 1) "_law_built" ["_law_model"] (sp_lbuilt (n + 1)) := by
  have nd := sc__law_built.nd
  refine Def.okT T.d__law_built sc__law_built (fun _ _ _ _ _ _ us hl => match us, hl with | [_], _ => rfl) (fun xs S Q X h => ?_) ?_ (fun f cdv AA outer s H E hr tk po => have hu := hu_of hr; (ss_cons (s_if (t_not (t_val (e_callB (g := gIsi K) call_isi c_isi (by rfl) T.b.b_isinstance boot_isinstance (a_cons (e_var 0) (a_cons (e_ty (by rfl) T.b.b_tuple boot_tuple) a_nil))))) (ss_one (s_ret (e_var 0))) ss_nil)
      (ss_cons (s_setLc (i := 1) (own := [("_law_item", 2)]) (.nm 2) rfl nd rfl rfl (sw_true rfl rfl rfl (by decide +kernel)) (i_seq (e_ix (ix_op hr) o_ix (e_var 0) e_int (fun _ _ => rfl))) (blkOk_by (own := [("_law_item", 2)]) (N := N__law_built) (sc := defScope s__law_built) (by decide +kernel)) (by decide) (fun _ _ _ _ _ => (pg_name (i := 2) nd rfl (Or.inl rfl) (hf := Or.inr rfl))) (fun _ _ _ _ _ => ts_nil) (fun _ _ _ _ _ => (e_call C__law_built (hr.mono (by omega)) (by rfl) takes0 (a_cons (e_var 2) a_nil))))
      (ss_cons (s_if (t_cmp (eq_op hr) o_eq (e_ix (ix_op hr) o_ix (e_var 0) e_int (fun _ _ => rfl)) e_str (nomark _)) (ss_one (s_ret (e_callTy call_tuple_of c_tuple (by rfl) T.b.b_tuple boot_tuple (a_cons (e_var 1) a_nil)))) ss_nil)
      (ss_one (s_ret (e_var 1))))))) ?_
  · obtain ⟨v, rfl, ok, nt, dp, np, hq⟩ := h
    rfl
  · walk_at "mono"
  · intro xs S Q X cQ cX h
    obtain ⟨v, rfl, ok, nt, dp, np, hq⟩ := h
    have hT := And.intro T.c_Table.ci <| And.intro T.k_NoneType_Table <| And.intro T.k_bool_Table <| And.intro T.k_Table_bool <| And.intro T.k_int_Table <| And.intro T.k_Table_int <| And.intro T.k_str_Table <| And.intro T.k_Table_str <| And.intro T.k_list_Table <| And.intro T.k_Table_list <| And.intro T.k_tuple_Table <| And.intro T.k_Table_tuple <| And.intro T.k_dict_Table <| T.k_Table_Table
    simp only [KQ.startT, List.map_cons, List.map_nil, List.length_cons, List.length_nil, Nat.reduceAdd, Nat.reduceSub, List.replicate_succ, List.replicate_zero, List.cons_append, List.nil_append]
    replace hq := Hide.mk hq
    cases v with
    | tab ks vs => exact nt.elim
    | lst vs =>
      have dp : 1 + vdepthL vs < n + 1 := dp
      have np : 1 + vpartsL vs ≤ 50000 := np
      simp only [mT]
      walk_at "vn"
      refine built_rows dp np ok nt (fun _ => trivial) ?_ (by simp)
      have := hq.go 0
      simp only [vT] at this
      walk_at "vn"
      all_goals exact this
    | tup vs =>
      have dp : 1 + vdepthL vs < n + 1 := dp
      have np : 1 + vpartsL vs ≤ 50000 := np
      simp only [mT]
      walk_at "vn"
      refine built_rows dp np ok nt (fun _ => trivial) ?_ (by simp)
      have := hq.go 0
      simp only [vT] at this
      walk_at "vn"
      all_goals exact this
    | _ =>
      have := hq.go 0
      simp only [mT]
      walk_at "vn"
      first | exact this | trivial
theorem ok__law_built (T : Top K mg A) {k : Nat}  : ∀ n, CalleeT P w K mg base (k + 1 * n) "_law_built" ["_law_model"] (sp_lbuilt n)
  | 0 => Def.botT (N := N__law_built) T.d__law_built (fun _ _ _ _ _ _ us hl => match us, hl with | [_], _ => rfl) (fun xs S Q X h => by
      obtain ⟨v, _, _, _, h, _⟩ := h
      omega)
  | n + 1 => by
    have C__law_built_0 := ok__law_built (k := k) T  n
    exact (step__law_built T (k := k + 1 * n + 0) (C__law_built_0.lift (by omega))).lift (by omega)

/-! ### _law_long -/
abbrev N__law_long : List Str := ["_law_model"]
theorem sc__law_long : FnScope N__law_long ["_law_model"] (defScope s__law_long) := ⟨rfl, rfl, rfl, by decide +kernel, rfl, by decide +kernel, by decide +kernel⟩
def sp_llong : TSp := fun xs S Q X => ∃ v : Val, xs = [mT v] ∧ leafV v ∧ VOk v ∧ Q (.bl (longW v)) S
theorem ok__law_long (T : Top K mg A) {k : Nat}   : CalleeT P w K mg base (k + 1) "_law_long" ["_law_model"] (sp_llong) := by
  have nd := sc__law_long.nd
  refine Def.okT T.d__law_long sc__law_long (fun _ _ _ _ _ _ us hl => match us, hl with | [_], _ => rfl) (fun xs S Q X h => ?_) ?_ (fun f cdv AA outer s H E hr tk po => have hu := hu_of hr; (ss_one (s_ret (e_and (e_callB (g := gIsi K) call_isi c_isi (by rfl) T.b.b_isinstance boot_isinstance (a_cons (e_var 0) (a_cons (e_ty (by rfl) T.b.b_int boot_int) a_nil))) (e_and (e_not (e_callB (g := gIsi K) call_isi c_isi (by rfl) T.b.b_isinstance boot_isinstance (a_cons (e_var 0) (a_cons (e_ty (by rfl) T.b.b_bool boot_bool) a_nil)))) (e_one (e_cmp op_gt o_gt (e_callB len_op c_len (by rfl) T.b.b_len boot_len (a_cons (e_callTy str4 c_str4 (by rfl) T.b.b_str boot_str (a_cons (e_callB call_abs c_abs (by rfl) T.b.b_abs boot_abs (a_cons (e_var 0) a_nil)) a_nil)) a_nil)) e_int (nomark _)))))))) ?_
  · obtain ⟨v, rfl, lf, ok, hq⟩ := h
    rfl
  · walk_at "mono"
  · intro xs S Q X cQ cX h
    obtain ⟨v, rfl, lf, ok, hq⟩ := h
    have hT := And.intro T.c_Table.ci <| And.intro T.k_NoneType_Table <| And.intro T.k_bool_Table <| And.intro T.k_Table_bool <| And.intro T.k_int_Table <| And.intro T.k_Table_int <| And.intro T.k_str_Table <| And.intro T.k_Table_str <| And.intro T.k_list_Table <| And.intro T.k_Table_list <| And.intro T.k_tuple_Table <| And.intro T.k_Table_tuple <| And.intro T.k_dict_Table <| T.k_Table_Table
    simp only [KQ.startT, List.map_cons, List.map_nil, List.length_cons, List.length_nil, Nat.reduceAdd, Nat.reduceSub, List.replicate_succ, List.replicate_zero, List.cons_append, List.nil_append]
    replace hq := Hide.mk hq
    cases v with
    | int i =>
      have hq := hq.go
      have ow : i.natAbs < 10 ^ 30 := ok
      have lg : ((i.natAbs : Int)).natAbs.log2 < 1920 := log_int (n := (i.natAbs : Int)) (by simpa using ow)
      have ll := (intS_ok (n := (i.natAbs : Int)) (by simpa using ow)).2
      simp only [mT]
      replace hq := Hide.mk hq
      walk_at "vn"
      exact ⟨Nat.le_of_lt (szn (show (Str.ofString (toString (i.natAbs : Int))).length ≤ _ from Nat.le_trans ll (by decide))), hq.go⟩
    | lst vs => exact lf.elim
    | tup vs => exact lf.elim
    | tab ks vs => exact lf.elim
    | _ =>
      have := hq.go
      simp only [mT]
      replace this := Hide.mk this
      walk_at "vn"
      all_goals exact this.go

/-! ### _law_due -/
abbrev N__law_due : List Str := ["_law_model", "_law_o", "_law_path", "_law_raws", "_law_k", "_law_found"]
theorem sc__law_due : FnScope N__law_due ["_law_model", "_law_o", "_law_path"] (defScope s__law_due) := ⟨rfl, rfl, rfl, by decide +kernel, rfl, by decide +kernel, by decide +kernel⟩
def sp_wdue0 (n : Nat) : TSp := fun xs S Q X => ∃ (v : Val) (r : Wo) (p : List Key) (m : Nat), xs = [mT v, woT r, .lst (p.map kT)] ∧ VOk v ∧ noTab v ∧ vdepth v < n ∧ vdepth v < m ∧ vparts v ≤ 10000 ∧ p.length + vdepth v ≤ 1000 ∧
  (∀ w, wrt r m v p = .ok w → Q (.tup [.str "raw", rT w]) S) ∧ (∀ e, wrt r m v p = .error e → Q (.tup [.str "no", .str e.1, .lst (e.2.map kT)]) S)
theorem step__law_due (T : Top K mg A) {k n : Nat} (C__law_long : CalleeT P w K mg base k "_law_long" ["_law_model"] (sp_llong)) (C__law_due : CalleeT P w K mg base k "_law_due" ["_law_model", "_law_o", "_law_path"] (sp_wdue0 n)) : CalleeT P w K mg base (k + 1) "_law_due" ["_law_model", "_law_o", "_law_path"] (sp_wdue0 (n + 1)) := by
  have nd := sc__law_due.nd
  refine Def.okT T.d__law_due sc__law_due (fun _ _ _ _ _ _ us hl => match us, hl with | [_, _, _], _ => rfl) (fun xs S Q X h => ?_) ?_ (fun f cdv AA outer s H E hr tk po => have hu := hu_of hr; (ss_cons (s_if (t_not (t_val (e_callB (g := gIsi K) call_isi c_isi (by rfl) T.b.b_isinstance boot_isinstance (a_cons (e_var 0) (a_cons (e_ty (by rfl) T.b.b_tuple boot_tuple) a_nil))))) (ss_cons (s_if (TPW.pt (w_or (t_not (t_val (e_call C__law_long (hr.mono (by omega)) (by rfl) tk (a_cons (e_var 0) a_nil)))) (w_or1 (t_cmp (eq_op hr) o_eq (e_ix (ix_op hr) o_ix (e_var 1) e_int (fun _ _ => rfl)) e_str (nomark _))))) (ss_one (s_ret (e_tup (a_cons e_str (a_cons (e_var 0) a_nil))))) ss_nil)
      (ss_cons (s_if (t_cmp (eq_op hr) o_eq (e_ix (ix_op hr) o_ix (e_var 1) e_int (fun _ _ => rfl)) e_str (nomark _)) (ss_one (s_ret (e_tup (a_cons e_str (a_cons e_str (a_cons (e_var 2) a_nil)))))) ss_nil)
      (ss_one (s_ret (e_tup (a_cons e_str (a_cons (e_callTy str4 c_str4 (by rfl) T.b.b_str boot_str (a_cons (e_var 0) a_nil)) a_nil))))))) ss_nil)
      (ss_cons (s_if (TPW.pt (w_and (t_cmp (eq_op hr) o_eq (e_ix (ix_op hr) o_ix (e_var 0) e_int (fun _ _ => rfl)) e_str (nomark _)) (w_and1 (t_cmp (eq_op hr) o_eq (e_ix (ix_op hr) o_ix (e_var 1) e_int (fun _ _ => rfl)) e_str (nomark _))))) (ss_one (s_ret (e_tup (a_cons e_str (a_cons e_str (a_cons (e_var 2) a_nil)))))) ss_nil)
      (ss_cons (s_set (i := 3) nd rfl (Or.inl rfl) (e_lstC a_nil))
      (ss_cons (s_for (.nm 4) po rfl (i_rng1 (by rfl) T.b.b_range (a_cons (e_callB len_op c_len (by rfl) T.b.b_len boot_len (a_cons (e_ix (ix_op hr) o_ix (e_var 0) e_int (fun _ _ => rfl)) a_nil)) a_nil)) (pg_name (i := 4) nd rfl (Or.inl rfl)) (ss_cons (s_set (i := 5) nd rfl (Or.inl rfl) (e_call C__law_due (hr.mono (by omega)) (by rfl) tk (a_cons (e_ix (ix_op hr) o_ix (e_ix (ix_op hr) o_ix (e_var 0) e_int (fun _ _ => rfl)) (e_var 4) (fun _ _ => rfl)) (a_cons (e_var 1) (a_cons (e_op ad_op o_add (e_var 2) (e_lst (a_cons (e_var 4) a_nil))) a_nil)))))
      (ss_cons (s_if (t_cmp (eq_op hr) o_eq (e_ix (ix_op hr) o_ix (e_var 5) e_int (fun _ _ => rfl)) e_str (nomark _)) (ss_one (s_ret (e_var 5))) ss_nil)
      (ss_one (s_expr (e_mm m_append (e_var 3) (a_cons (e_ix (ix_op hr) o_ix (e_var 5) e_int (fun _ _ => rfl)) a_nil) (fun ho ha => pe_bm PySem.F.plainAttrs_list PySem.F.slot_list_append PySem.F.type_list_append mt_append ho ha)))))))
      (ss_frz (i := 3) (ss_one (s_ret (e_tup (a_cons e_str (a_cons (e_tup (a_cons e_str (a_cons (e_var 3) a_nil))) a_nil))))))))))) ?_
  · obtain ⟨v, r, p, m, rfl, ov, nt, dv, dm, pv, lp, h1, h2⟩ := h
    rfl
  · walk_at "mono"
  · intro xs S Q X cQ cX h
    obtain ⟨v, r, p, m, rfl, ov, nt, dv, dm, pv, lp, h1, h2⟩ := h
    have hT := And.intro T.c_Table.ci <| And.intro T.k_NoneType_Table <| And.intro T.k_bool_Table <| And.intro T.k_Table_bool <| And.intro T.k_int_Table <| And.intro T.k_Table_int <| And.intro T.k_str_Table <| And.intro T.k_Table_str <| And.intro T.k_list_Table <| And.intro T.k_Table_list <| And.intro T.k_tuple_Table <| And.intro T.k_Table_tuple <| And.intro T.k_dict_Table <| T.k_Table_Table
    simp only [KQ.startT, List.map_cons, List.map_nil, List.length_cons, List.length_nil, Nat.reduceAdd, Nat.reduceSub, List.replicate_succ, List.replicate_zero, List.cons_append, List.nil_append]
    have a1 : atI [Tr.str r.keys, .str r.tups, .str r.nulls, .str r.dbl, .str r.order, .str r.longs] 1 = some (.str r.tups) := atI_nat (j := 1) rfl
    have a5 : atI [Tr.str r.keys, .str r.tups, .str r.nulls, .str r.dbl, .str r.order, .str r.longs] 5 = some (.str r.longs) := atI_nat (j := 5) rfl
    unfold woT
    obtain ⟨m, rfl⟩ : ∃ k, m = k + 1 := ⟨m - 1, by omega⟩
    cases v with
    | tab ks xs => exact nt.elim
    | lst xs =>
      have er : wrt r (m + 1) (.lst xs) p = wR (wrt r m) xs p := rfl
      have nt : noTabL xs := nt
      have hd : 1 + vdepthL xs < n + 1 := dv
      have hm : 1 + vdepthL xs < m + 1 := dm
      have hp : 1 + vpartsL xs ≤ 10000 := pv
      have hl : p.length + (1 + vdepthL xs) ≤ 1000 := lp
      have lx := vpartsL_ge xs
      have ow : VOkL xs := ov
      simp only [mT, mTL_map]
      have b0 : atI [Tr.str "list", .lst (xs.map mT)] 0 = some (.str "list") := atI_nat (j := 0) rfl
      have b1 : atI [Tr.str "list", .lst (xs.map mT)] 1 = some (.lst (xs.map mT)) := atI_nat (j := 1) rfl
      have c0 : ∀ y, atI [Tr.str "raw", y] 0 = some (.str "raw") := fun y => atI_nat (j := 0) rfl
      have c1 : ∀ y, atI [Tr.str "raw", y] 1 = some y := fun y => atI_nat (j := 1) rfl
      have c2 : ∀ y z, atI [Tr.str "no", y, z] 0 = some (.str "no") := fun y z => atI_nat (j := 0) rfl
      replace h1 := Hide.mk h1
      replace h2 := Hide.mk h2
      walk_at "vn"
      intro q hqn
      refine ⟨by omega, by omega, ?_⟩
      refine loop_inv _ (fun i ρ S' => ∃ ws x4 x5, ρ = [some (.tup [.str "list", .lst (xs.map mT)]), some (.lst [.str r.keys, .str r.tups, .str r.nulls, .str r.dbl, .str r.order, .str r.longs]), some (.lst (p.map kT)), some (.ref q), x4, x5] ∧ S' = put S q (.lst (rTL ws)) ∧ ws.length = i ∧ wL (wrt r m) xs 0 p = (match wL (wrt r m) (xs.drop i) i p with | .error e => .error e | .ok us => .ok (ws ++ us))) ?_ ?_ ⟨[], _, _, rfl, rfl, rfl, by rw [List.drop_zero]; cases wL (wrt r m) xs 0 p <;> rfl⟩
      · rintro i x ρ S' N hx ⟨ws, x4, x5, rfl, rfl, lv, hb⟩ hN
        obtain ⟨rfl, hi⟩ := rng_at hx
        clear hx
        have hi : i < xs.length := by simpa using hi
        have hw : xs[i]? = some xs[i] := List.getElem?_eq_getElem hi
        have d1 := vdepth_get hw
        have p1 := vparts_get hw
        have o1 := VOkL.get ow hw
        have n1 := noTabL_get nt hw
        have e1 : atI (xs.map mT) (i : Int) = some (mT xs[i]) := atI_nat (by rw [List.getElem?_map, hw]; rfl)
        rw [List.drop_eq_getElem_cons hi, wL] at hb
        generalize xs[i] = w at *
        have vv : ∀ S', vw S' (mT w) = mT w := fun _ => vw_mT
        have lt : (rTL ws).length < sizeLine := szn (by rw [rTL_map, List.length_map]; omega)
        replace hN := Hide.mk hN
        walk_at "vn"
        refine ⟨Nat.le_of_lt (szn (by simp only [List.length_append, List.length_map, List.length_singleton]; omega)), ?_⟩
        rw [show p.map kT ++ [Tr.int (i : Nat)] = (p ++ [Sum.inl (i : Int)]).map kT by rw [List.map_append]; rfl]
        refine ⟨w, r, p ++ [Sum.inl (i : Int)], m, rfl, o1, n1, by omega, by omega, by omega, by rw [List.length_append, List.length_singleton]; omega, fun u hv => ?_, fun e he => ?_⟩
        · rw [hv] at hb
          walk_at "vn"
          refine hN.go _ _ ⟨ws ++ [u], _, _, rfl, by rw [rTL_map, rTL_map, List.map_append]; rfl, by rw [List.length_append, lv]; rfl, ?_⟩
          rw [hb]
          cases wL (wrt r m) (xs.drop (i + 1)) (i + 1) p with
          | error e => rfl
          | ok us => show Except.ok _ = Except.ok _; rw [List.append_assoc]; rfl
        · rw [he] at hb
          have h3 := h2.go e (by rw [er, wR, hb])
          clear h1 h2 hN
          replace h3 := Hide.mk h3
          walk_at "vn"
          exact cQ.drop (sub_new hqn) h3.go
      · rintro ρ S' ⟨ws, x4, x5, rfl, rfl, lv, hb⟩
        rw [rngT_len] at lv hb
        have el : (xs.map mT).length = xs.length := List.length_map ..
        simp only [el, Int.toNat_natCast] at lv hb
        rw [List.drop_length, wL] at hb
        have hb : wL (wrt r m) xs 0 p = .ok ws := by rw [hb]; show Except.ok _ = _; rw [List.append_nil]
        have h3 := h1.go (.row ws) (by rw [er, wR, hb])
        rw [rT] at h3
        clear h1 h2
        replace h3 := Hide.mk h3
        walk_at "vn"
        exact ⟨_, _, Frz.one put_same (sub_new hqn) hqn, h3.go⟩
    | tup xs =>
      have nt : noTabL xs := nt
      have hd : 1 + vdepthL xs < n + 1 := dv
      have hm : 1 + vdepthL xs < m + 1 := dm
      have hp : 1 + vpartsL xs ≤ 10000 := pv
      have hl : p.length + (1 + vdepthL xs) ≤ 1000 := lp
      have lx := vpartsL_ge xs
      have ow : VOkL xs := ov
      simp only [mT, mTL_map]
      have b0 : atI [Tr.str "tuple", .lst (xs.map mT)] 0 = some (.str "tuple") := atI_nat (j := 0) rfl
      have b1 : atI [Tr.str "tuple", .lst (xs.map mT)] 1 = some (.lst (xs.map mT)) := atI_nat (j := 1) rfl
      have c0 : ∀ y, atI [Tr.str "raw", y] 0 = some (.str "raw") := fun y => atI_nat (j := 0) rfl
      have c1 : ∀ y, atI [Tr.str "raw", y] 1 = some y := fun y => atI_nat (j := 1) rfl
      have c2 : ∀ y z, atI [Tr.str "no", y, z] 0 = some (.str "no") := fun y z => atI_nat (j := 0) rfl
      replace h1 := Hide.mk h1
      replace h2 := Hide.mk h2
      walk_at "vn"
      by_cases ht : r.tups = Str.ofString "refuse"
      · rw [if_pos ht]
        exact h2.go ("tuple", p) (if_pos ht)
      rw [if_neg ht]
      have er : wrt r (m + 1) (.tup xs) p = wR (wrt r m) xs p := if_neg ht
      intro q hqn
      refine ⟨by omega, by omega, ?_⟩
      refine loop_inv _ (fun i ρ S' => ∃ ws x4 x5, ρ = [some (.tup [.str "tuple", .lst (xs.map mT)]), some (.lst [.str r.keys, .str r.tups, .str r.nulls, .str r.dbl, .str r.order, .str r.longs]), some (.lst (p.map kT)), some (.ref q), x4, x5] ∧ S' = put S q (.lst (rTL ws)) ∧ ws.length = i ∧ wL (wrt r m) xs 0 p = (match wL (wrt r m) (xs.drop i) i p with | .error e => .error e | .ok us => .ok (ws ++ us))) ?_ ?_ ⟨[], _, _, rfl, rfl, rfl, by rw [List.drop_zero]; cases wL (wrt r m) xs 0 p <;> rfl⟩
      · rintro i x ρ S' N hx ⟨ws, x4, x5, rfl, rfl, lv, hb⟩ hN
        obtain ⟨rfl, hi⟩ := rng_at hx
        clear hx
        have hi : i < xs.length := by simpa using hi
        have hw : xs[i]? = some xs[i] := List.getElem?_eq_getElem hi
        have d1 := vdepth_get hw
        have p1 := vparts_get hw
        have o1 := VOkL.get ow hw
        have n1 := noTabL_get nt hw
        have e1 : atI (xs.map mT) (i : Int) = some (mT xs[i]) := atI_nat (by rw [List.getElem?_map, hw]; rfl)
        rw [List.drop_eq_getElem_cons hi, wL] at hb
        generalize xs[i] = w at *
        have vv : ∀ S', vw S' (mT w) = mT w := fun _ => vw_mT
        have lt : (rTL ws).length < sizeLine := szn (by rw [rTL_map, List.length_map]; omega)
        replace hN := Hide.mk hN
        walk_at "vn"
        refine ⟨Nat.le_of_lt (szn (by simp only [List.length_append, List.length_map, List.length_singleton]; omega)), ?_⟩
        rw [show p.map kT ++ [Tr.int (i : Nat)] = (p ++ [Sum.inl (i : Int)]).map kT by rw [List.map_append]; rfl]
        refine ⟨w, r, p ++ [Sum.inl (i : Int)], m, rfl, o1, n1, by omega, by omega, by omega, by rw [List.length_append, List.length_singleton]; omega, fun u hv => ?_, fun e he => ?_⟩
        · rw [hv] at hb
          walk_at "vn"
          refine hN.go _ _ ⟨ws ++ [u], _, _, rfl, by rw [rTL_map, rTL_map, List.map_append]; rfl, by rw [List.length_append, lv]; rfl, ?_⟩
          rw [hb]
          cases wL (wrt r m) (xs.drop (i + 1)) (i + 1) p with
          | error e => rfl
          | ok us => show Except.ok _ = Except.ok _; rw [List.append_assoc]; rfl
        · rw [he] at hb
          have h3 := h2.go e (by rw [er, wR, hb])
          clear h1 h2 hN
          replace h3 := Hide.mk h3
          walk_at "vn"
          exact cQ.drop (sub_new hqn) h3.go
      · rintro ρ S' ⟨ws, x4, x5, rfl, rfl, lv, hb⟩
        rw [rngT_len] at lv hb
        have el : (xs.map mT).length = xs.length := List.length_map ..
        simp only [el, Int.toNat_natCast] at lv hb
        rw [List.drop_length, wL] at hb
        have hb : wL (wrt r m) xs 0 p = .ok ws := by rw [hb]; show Except.ok _ = _; rw [List.append_nil]
        have h3 := h1.go (.row ws) (by rw [er, wR, hb])
        rw [rT] at h3
        clear h1 h2
        replace h3 := Hide.mk h3
        walk_at "vn"
        exact ⟨_, _, Frz.one put_same (sub_new hqn) hqn, h3.go⟩
    | int i =>
      have ow : i.natAbs < 10 ^ 30 := ov
      have er : wrt r (m + 1) (.int i) p = wI r i p := rfl
      have lg2 : i.natAbs.log2 < 1920 := log_int ow
      rw [er] at h1 h2
      unfold wI at h1 h2
      simp only [mT]
      replace h1 := Hide.mk h1
      replace h2 := Hide.mk h2
      walk_at "vn"
      refine ⟨.int i, rfl, trivial, ov, ?_⟩
      have h1 := h1.go
      have h2 := h2.go
      cases hl : longI i with
      | false =>
        have : longW (.int i) = false := hl
        rw [this]
        exact ⟨false, rfl, h1 (.int i) (if_neg (fun z => by rw [hl] at z; cases z.1))⟩
      | true =>
        have : longW (.int i) = true := hl
        rw [this]
        refine ⟨true, rfl, ?_⟩
        rw [if_neg (by decide)]
        by_cases hk : r.longs = Str.ofString "keep"
        · rw [if_pos hk]
          exact h1 (.int i) (if_neg (fun z => z.2 hk))
        · rw [if_neg hk]
          by_cases hf : r.longs = Str.ofString "refuse"
          · rw [if_pos hf]
            exact h2 ("long", p) ((if_pos ⟨hl, hk⟩).trans (if_pos hf))
          · rw [if_neg hf]
            exact h1 (.str (intS i)) ((if_pos ⟨hl, hk⟩).trans (if_neg hf))
    | non =>
      simp only [mT]
      have h1 := h1 .non rfl
      rw [rT] at h1
      replace h1 := Hide.mk h1
      walk_at "vn"
      exact ⟨.non, rfl, trivial, trivial, false, rfl, h1.go⟩
    | bl b =>
      simp only [mT]
      have h1 := h1 (.bl b) rfl
      rw [rT] at h1
      replace h1 := Hide.mk h1
      walk_at "vn"
      exact ⟨.bl b, rfl, trivial, trivial, false, rfl, h1.go⟩
    | str z =>
      simp only [mT]
      have h1 := h1 (.str z) rfl
      rw [rT] at h1
      replace h1 := Hide.mk h1
      walk_at "vn"
      exact ⟨.str z, rfl, trivial, ov, false, rfl, h1.go⟩
theorem ok__law_due (T : Top K mg A) {k : Nat} (C__law_long : CalleeT P w K mg base k "_law_long" ["_law_model"] (sp_llong)) : ∀ n, CalleeT P w K mg base (k + 1 * n) "_law_due" ["_law_model", "_law_o", "_law_path"] (sp_wdue0 n)
  | 0 => Def.botT (N := N__law_due) T.d__law_due (fun _ _ _ _ _ _ us hl => match us, hl with | [_, _, _], _ => rfl) (fun xs S Q X h => by
      obtain ⟨_, _, _, _, _, _, _, h, _⟩ := h
      omega)
  | n + 1 => by
    have C__law_due_0 := ok__law_due (k := k) T C__law_long n
    exact (step__law_due T (k := k + 1 * n + 0) (C__law_long.lift (by omega)) (C__law_due_0.lift (by omega))).lift (by omega)

/-! ### _law_atoms -/
abbrev N__law_atoms : List Str := ["_law_one", "_law_other"]
theorem sc__law_atoms : FnScope N__law_atoms ["_law_one", "_law_other"] (defScope s__law_atoms) := ⟨rfl, rfl, rfl, by decide +kernel, rfl, by decide +kernel, by decide +kernel⟩
def sp_atoms : TSp := fun xs S Q X => ∃ v : Val, leafV v ∧ xs = [mT v, mT v] ∧ Q (.bl true) S
theorem ok__law_atoms (T : Top K mg A) {k : Nat}   : CalleeT P w K mg base (k + 1) "_law_atoms" ["_law_one", "_law_other"] (sp_atoms) := by
  have nd := sc__law_atoms.nd
  refine Def.okT T.d__law_atoms sc__law_atoms (fun _ _ _ _ _ _ us hl => match us, hl with | [_, _], _ => rfl) (fun xs S Q X h => ?_) ?_ (fun f cdv AA outer s H E hr tk po => have hu := hu_of hr; (ss_cons (s_if (t_cmp KB.is_any o_is (e_var 0) e_non (nomark _)) (ss_one (s_ret (e_cmp KB.is_any o_is (e_var 1) e_non (nomark _)))) ss_nil)
      (ss_cons (s_if (t_cmp KB.is_any o_is (e_var 0) e_bl (nomark _)) (ss_one (s_ret (e_cmp KB.is_any o_is (e_var 1) e_bl (nomark _)))) ss_nil)
      (ss_cons (s_if (t_cmp KB.is_any o_is (e_var 0) e_bl (nomark _)) (ss_one (s_ret (e_cmp KB.is_any o_is (e_var 1) e_bl (nomark _)))) ss_nil)
      (ss_cons (s_if (t_val (e_callB (g := gIsi K) call_isi c_isi (by rfl) T.b.b_isinstance boot_isinstance (a_cons (e_var 0) (a_cons (e_ty (by rfl) T.b.b_str boot_str) a_nil)))) (ss_one (s_ret (e_and (e_callB (g := gIsi K) call_isi c_isi (by rfl) T.b.b_isinstance boot_isinstance (a_cons (e_var 1) (a_cons (e_ty (by rfl) T.b.b_str boot_str) a_nil))) (e_one (e_cmp (eq_op hr) o_eq (e_var 0) (e_var 1) (nomark _)))))) ss_nil)
      (ss_one (s_ret (e_and (e_callB (g := gIsi K) call_isi c_isi (by rfl) T.b.b_isinstance boot_isinstance (a_cons (e_var 1) (a_cons (e_ty (by rfl) T.b.b_int boot_int) a_nil))) (e_and (e_not (e_callB (g := gIsi K) call_isi c_isi (by rfl) T.b.b_isinstance boot_isinstance (a_cons (e_var 1) (a_cons (e_ty (by rfl) T.b.b_bool boot_bool) a_nil)))) (e_one (e_cmp (eq_op hr) o_eq (e_var 0) (e_var 1) (nomark _)))))))))))) ?_
  · obtain ⟨v, lf, rfl, hq⟩ := h
    rfl
  · walk_at "mono"
  · intro xs S Q X cQ cX h
    obtain ⟨v, lf, rfl, hq⟩ := h
    have hT := And.intro T.c_Table.ci <| And.intro T.k_NoneType_Table <| And.intro T.k_bool_Table <| And.intro T.k_Table_bool <| And.intro T.k_int_Table <| And.intro T.k_Table_int <| And.intro T.k_str_Table <| And.intro T.k_Table_str <| And.intro T.k_list_Table <| And.intro T.k_Table_list <| And.intro T.k_tuple_Table <| And.intro T.k_Table_tuple <| And.intro T.k_dict_Table <| T.k_Table_Table
    simp only [KQ.startT, List.map_cons, List.map_nil, List.length_cons, List.length_nil, Nat.reduceAdd, Nat.reduceSub, List.replicate_succ, List.replicate_zero, List.cons_append, List.nil_append]
    cases v with
    | bl b =>
      simp only [mT]
      cases b
      · walk_at "vc"
      · walk_at "vc"
    | lst vs => exact lf.elim
    | tup vs => exact lf.elim
    | tab ks vs => exact lf.elim
    | _ =>
      simp only [mT]
      walk_at "vc"

/-! ### _law_path_is -/
abbrev N__law_path_is : List Str := ["_law_found", "_law_path", "_law_k"]
theorem sc__law_path_is : FnScope N__law_path_is ["_law_found", "_law_path"] (defScope s__law_path_is) := ⟨rfl, rfl, rfl, by decide +kernel, rfl, by decide +kernel, by decide +kernel⟩
def sp_pathis : TSp := fun xs S Q X => ∃ p : List Key, xs = [pathT p, .lst (p.map kT)] ∧ (∀ k ∈ p, KOk k) ∧ p.length ≤ 1000 ∧ Q (.bl true) S
theorem ok__law_path_is (T : Top K mg A) {k : Nat} (C__law_atoms : CalleeT P w K mg base k "_law_atoms" ["_law_one", "_law_other"] (sp_atoms))  : CalleeT P w K mg base (k + 1) "_law_path_is" ["_law_found", "_law_path"] (sp_pathis) := by
  have nd := sc__law_path_is.nd
  refine Def.okT T.d__law_path_is sc__law_path_is (fun _ _ _ _ _ _ us hl => match us, hl with | [_, _], _ => rfl) (fun xs S Q X h => ?_) ?_ (fun f cdv AA outer s H E hr tk po => have hu := hu_of hr; (ss_cons (s_if (TPW.pt (w_or (t_not (t_val (e_callB (g := gIsi K) call_isi c_isi (by rfl) T.b.b_isinstance boot_isinstance (a_cons (e_var 0) (a_cons (e_ty (by rfl) T.b.b_tuple boot_tuple) a_nil))))) (w_or1 (t_cmp (ne_op hr) o_eq (e_callB len_op c_len (by rfl) T.b.b_len boot_len (a_cons (e_var 0) a_nil)) (e_callB len_op c_len (by rfl) T.b.b_len boot_len (a_cons (e_var 1) a_nil)) (nomark _))))) (ss_one (s_ret e_bl)) ss_nil)
      (ss_cons (s_for (.nm 2) po rfl (i_rng1 (by rfl) T.b.b_range (a_cons (e_callB len_op c_len (by rfl) T.b.b_len boot_len (a_cons (e_var 1) a_nil)) a_nil)) (pg_name (i := 2) nd rfl (Or.inl rfl)) (ss_one (s_if (t_not (t_val (e_call C__law_atoms (hr.mono (by omega)) (by rfl) tk (a_cons (e_ix (ix_op hr) o_ix (e_var 1) (e_var 2) (fun _ _ => rfl)) (a_cons (e_ix (ix_op hr) o_ix (e_var 0) (e_var 2) (fun _ _ => rfl)) a_nil))))) (ss_one (s_ret e_bl)) ss_nil)))
      (ss_one (s_ret e_bl))))) ?_
  · obtain ⟨p, rfl, ok, l, hq⟩ := h
    rfl
  · walk_at "mono"
  · intro xs S Q X cQ cX h
    obtain ⟨p, rfl, ok, l, hq⟩ := h
    have hT := And.intro T.c_Table.ci <| And.intro T.k_NoneType_Table <| And.intro T.k_bool_Table <| And.intro T.k_Table_bool <| And.intro T.k_int_Table <| And.intro T.k_Table_int <| And.intro T.k_str_Table <| And.intro T.k_Table_str <| And.intro T.k_list_Table <| And.intro T.k_Table_list <| And.intro T.k_tuple_Table <| And.intro T.k_Table_tuple <| And.intro T.k_dict_Table <| T.k_Table_Table
    simp only [KQ.startT, List.map_cons, List.map_nil, List.length_cons, List.length_nil, Nat.reduceAdd, Nat.reduceSub, List.replicate_succ, List.replicate_zero, List.cons_append, List.nil_append]
    replace hq := Hide.mk hq
    unfold pathT
    walk_at "vn"
    refine ⟨by omega, by omega, ?_⟩
    refine loop_inv _ (fun i ρ S2 => ∃ x2, ρ = [some (.tup (p.map kT)), some (.lst (p.map kT)), x2] ∧ S2 = S) ?_ ?_ ⟨_, rfl, rfl⟩
    · rintro i x ρ S2 N hx ⟨x2, rfl, rfl⟩ hN
      obtain ⟨rfl, hi⟩ := rng_at hx
      clear hx
      have hi : i < p.length := hi
      have e0 : (p.map kT)[i]? = some (kT p[i]) := by rw [List.getElem?_map, List.getElem?_eq_getElem hi]; rfl
      have ok1 := ok _ (List.getElem_mem hi)
      obtain ⟨v, lv, ev⟩ : ∃ v : Val, leafV v ∧ kT p[i] = mT v := by
        cases p[i] with
        | inl n => exact ⟨.int n, trivial, rfl⟩
        | inr z => exact ⟨.str z, trivial, rfl⟩
      rw [ev] at e0
      have e1 : atI (p.map kT) (i : Int) = some (mT v) := atI_nat e0
      replace e0 := Hide.mk e0
      replace hN := Hide.mk hN
      clear ev
      walk_at "vn"
      refine ⟨v, lv, rfl, ?_⟩
      walk_at "vn"
      exact hN.go _ _ ⟨_, rfl, rfl⟩
    · rintro ρ S2 ⟨x2, rfl, rfl⟩
      walk_at "vn"
      exact hq.go

/-! ### _law_pair -/
abbrev N__law_pair : List Str := ["_law_found"]
theorem sc__law_pair : FnScope N__law_pair ["_law_found"] (defScope s__law_pair) := ⟨rfl, rfl, rfl, by decide +kernel, rfl, by decide +kernel, by decide +kernel⟩
def sp_lpair : TSp := fun xs S Q X => ∃ (z : Str) (y : Tr), xs = [.tup [.str z, y]] ∧ Q (.bl true) S
theorem ok__law_pair (T : Top K mg A) {k : Nat}   : CalleeT P w K mg base (k + 1) "_law_pair" ["_law_found"] (sp_lpair) := by
  have nd := sc__law_pair.nd
  refine Def.okT T.d__law_pair sc__law_pair (fun _ _ _ _ _ _ us hl => match us, hl with | [_], _ => rfl) (fun xs S Q X h => ?_) ?_ (fun f cdv AA outer s H E hr tk po => have hu := hu_of hr; (ss_one (s_ret (e_and (e_callB (g := gIsi K) call_isi c_isi (by rfl) T.b.b_isinstance boot_isinstance (a_cons (e_var 0) (a_cons (e_ty (by rfl) T.b.b_tuple boot_tuple) a_nil))) (e_and (e_cmp (eq_op hr) o_eq (e_callB len_op c_len (by rfl) T.b.b_len boot_len (a_cons (e_var 0) a_nil)) e_int (nomark _)) (e_one (e_callB (g := gIsi K) call_isi c_isi (by rfl) T.b.b_isinstance boot_isinstance (a_cons (e_ix (ix_op hr) o_ix (e_var 0) e_int (fun _ _ => rfl)) (a_cons (e_ty (by rfl) T.b.b_str boot_str) a_nil))))))))) ?_
  · obtain ⟨z, y, rfl, hq⟩ := h
    rfl
  · walk_at "mono"
  · intro xs S Q X cQ cX h
    obtain ⟨z, y, rfl, hq⟩ := h
    have hT := And.intro T.c_Table.ci <| And.intro T.k_NoneType_Table <| And.intro T.k_bool_Table <| And.intro T.k_Table_bool <| And.intro T.k_int_Table <| And.intro T.k_Table_int <| And.intro T.k_str_Table <| And.intro T.k_Table_str <| And.intro T.k_list_Table <| And.intro T.k_Table_list <| And.intro T.k_tuple_Table <| And.intro T.k_Table_tuple <| And.intro T.k_dict_Table <| T.k_Table_Table
    simp only [KQ.startT, List.map_cons, List.map_nil, List.length_cons, List.length_nil, Nat.reduceAdd, Nat.reduceSub, List.replicate_succ, List.replicate_zero, List.cons_append, List.nil_append]
    have a0 : atI [Tr.str z, y] 0 = some (.str z) := atI_nat (j := 0) rfl
    replace hq := Hide.mk hq
    walk_at "vn"
    rw [if_pos (show (([Tr.str z, y].length : Nat) : Int) = 2 from rfl)]
    exact hq.go

/-! ### _law_raw_alike -/
abbrev N__law_raw_alike : List Str := ["_law_raw", "_law_found", "_law_k", "_law_mine", "_law_theirs"]
theorem sc__law_raw_alike : FnScope N__law_raw_alike ["_law_raw", "_law_found"] (defScope s__law_raw_alike) := ⟨rfl, rfl, rfl, by decide +kernel, rfl, by decide +kernel, by decide +kernel⟩
def sp_rawalike (n : Nat) : TSp := fun xs S Q X => ∃ w : RawV, xs = [rT w, rT w] ∧ ROk w ∧ rdepth w < n ∧ rparts w ≤ 50000 ∧ Q (.bl true) S
theorem step__law_raw_alike (T : Top K mg A) {k n : Nat} (C__law_atoms : CalleeT P w K mg base k "_law_atoms" ["_law_one", "_law_other"] (sp_atoms)) (C__law_pair : CalleeT P w K mg base k "_law_pair" ["_law_found"] (sp_lpair)) (C__law_raw_alike : CalleeT P w K mg base k "_law_raw_alike" ["_law_raw", "_law_found"] (sp_rawalike n)) : CalleeT P w K mg base (k + 1) "_law_raw_alike" ["_law_raw", "_law_found"] (sp_rawalike (n + 1)) := by
  have nd := sc__law_raw_alike.nd
  refine Def.okT T.d__law_raw_alike sc__law_raw_alike (fun _ _ _ _ _ _ us hl => match us, hl with | [_, _], _ => rfl) (fun xs S Q X h => ?_) ?_ (fun f cdv AA outer s H E hr tk po => have hu := hu_of hr; (ss_cons (s_if (t_not (t_val (e_callB (g := gIsi K) call_isi c_isi (by rfl) T.b.b_isinstance boot_isinstance (a_cons (e_var 0) (a_cons (e_ty (by rfl) T.b.b_tuple boot_tuple) a_nil))))) (ss_one (s_ret (e_call C__law_atoms (hr.mono (by omega)) (by rfl) tk (a_cons (e_var 0) (a_cons (e_var 1) a_nil))))) ss_nil)
      (ss_cons (s_if (TPW.pt (w_or (t_not (t_val (e_call C__law_pair (hr.mono (by omega)) (by rfl) tk (a_cons (e_var 1) a_nil)))) (w_or1 (t_cmp (ne_op hr) o_eq (e_ix (ix_op hr) o_ix (e_var 1) e_int (fun _ _ => rfl)) (e_ix (ix_op hr) o_ix (e_var 0) e_int (fun _ _ => rfl)) (nomark _))))) (ss_one (s_ret e_bl)) ss_nil)
      (ss_cons (s_if (TPW.pt (w_or (t_not (t_val (e_callB (g := gIsi K) call_isi c_isi (by rfl) T.b.b_isinstance boot_isinstance (a_cons (e_ix (ix_op hr) o_ix (e_var 1) e_int (fun _ _ => rfl)) (a_cons (e_ty (by rfl) T.b.b_list boot_list) a_nil))))) (w_or1 (t_cmp (ne_op hr) o_eq (e_callB len_op c_len (by rfl) T.b.b_len boot_len (a_cons (e_ix (ix_op hr) o_ix (e_var 1) e_int (fun _ _ => rfl)) a_nil)) (e_callB len_op c_len (by rfl) T.b.b_len boot_len (a_cons (e_ix (ix_op hr) o_ix (e_var 0) e_int (fun _ _ => rfl)) a_nil)) (nomark _))))) (ss_one (s_ret e_bl)) ss_nil)
      (ss_cons (s_for (.nm 2) po rfl (i_rng1 (by rfl) T.b.b_range (a_cons (e_callB len_op c_len (by rfl) T.b.b_len boot_len (a_cons (e_ix (ix_op hr) o_ix (e_var 0) e_int (fun _ _ => rfl)) a_nil)) a_nil)) (pg_name (i := 2) nd rfl (Or.inl rfl)) (ss_cons (s_set (i := 3) nd rfl (Or.inl rfl) (e_ix (ix_op hr) o_ix (e_ix (ix_op hr) o_ix (e_var 0) e_int (fun _ _ => rfl)) (e_var 2) (fun _ _ => rfl)))
      (ss_cons (s_set (i := 4) nd rfl (Or.inl rfl) (e_ix (ix_op hr) o_ix (e_ix (ix_op hr) o_ix (e_var 1) e_int (fun _ _ => rfl)) (e_var 2) (fun _ _ => rfl)))
      (ss_cut (s_if (t_cmp (eq_op hr) o_eq (e_ix (ix_op hr) o_ix (e_var 0) e_int (fun _ _ => rfl)) e_str (nomark _)) (ss_cons (s_if (TPW.pt (w_or (t_not (t_val (e_call C__law_pair (hr.mono (by omega)) (by rfl) tk (a_cons (e_var 4) a_nil)))) (w_or1 (t_cmp (ne_op hr) o_eq (e_ix (ix_op hr) o_ix (e_var 4) e_int (fun _ _ => rfl)) (e_ix (ix_op hr) o_ix (e_var 3) e_int (fun _ _ => rfl)) (nomark _))))) (ss_one (s_ret e_bl)) ss_nil)
      (ss_cons (s_set (i := 3) nd rfl (Or.inl rfl) (e_ix (ix_op hr) o_ix (e_var 3) e_int (fun _ _ => rfl)))
      (ss_one (s_set (i := 4) nd rfl (Or.inl rfl) (e_ix (ix_op hr) o_ix (e_var 4) e_int (fun _ _ => rfl)))))) ss_nil)
      (ss_one (s_if (t_not (t_val (e_call C__law_raw_alike (hr.mono (by omega)) (by rfl) tk (a_cons (e_var 3) (a_cons (e_var 4) a_nil))))) (ss_one (s_ret e_bl)) ss_nil))))))
      (ss_one (s_ret e_bl))))))) ?_
  · obtain ⟨w, rfl, ow, dw, pw, hq⟩ := h
    rfl
  · walk_at "mono"
  · intro xs S Q X cQ cX h
    obtain ⟨w, rfl, ow, dw, pw, hq⟩ := h
    have hT := And.intro T.c_Table.ci <| And.intro T.k_NoneType_Table <| And.intro T.k_bool_Table <| And.intro T.k_Table_bool <| And.intro T.k_int_Table <| And.intro T.k_Table_int <| And.intro T.k_str_Table <| And.intro T.k_Table_str <| And.intro T.k_list_Table <| And.intro T.k_Table_list <| And.intro T.k_tuple_Table <| And.intro T.k_Table_tuple <| And.intro T.k_dict_Table <| T.k_Table_Table
    simp only [KQ.startT, List.map_cons, List.map_nil, List.length_cons, List.length_nil, Nat.reduceAdd, Nat.reduceSub, List.replicate_succ, List.replicate_zero, List.cons_append, List.nil_append]
    replace hq := Hide.mk hq
    cases w with
    | row xs =>
      have hd : 1 + rdepthL xs < n + 1 := dw
      have hp : 1 + rpartsL xs ≤ 50000 := pw
      have lx := rpartsL_ge xs
      have ow : ROkL xs := ow
      simp only [rT, rTL_map]
      have a0 : atI [Tr.str "row", .lst (xs.map rT)] 0 = some (.str "row") := atI_nat (j := 0) rfl
      have a1 : atI [Tr.str "row", .lst (xs.map rT)] 1 = some (.lst (xs.map rT)) := atI_nat (j := 1) rfl
      walk_at "vn"
      refine ⟨_, _, rfl, ?_⟩
      walk_at "vn"
      refine ⟨by omega, by omega, ?_⟩
      refine loop_inv _ (fun i ρ S2 => ∃ x2 x3 x4, ρ = [some (.tup [.str "row", .lst (xs.map rT)]), some (.tup [.str "row", .lst (xs.map rT)]), x2, x3, x4] ∧ S = S2) ?_ ?_ ⟨_, _, _, rfl, rfl⟩
      · rintro i x ρ S2 N hx ⟨x2, x3, x4, rfl, rfl⟩ hN
        obtain ⟨rfl, hi⟩ := rng_at hx
        clear hx
        have hi : i < xs.length := hi
        have hw : xs[i]? = some xs[i] := List.getElem?_eq_getElem hi
        have d1 := rdepth_get hw
        have p1 := rparts_get hw
        have o1 := ROkL.get ow hw
        have e1 : atI (xs.map rT) (i : Int) = some (rT xs[i]) := atI_nat (by rw [List.getElem?_map, hw]; rfl)
        generalize xs[i] = w at *
        have vv : ∀ S', vw S' (rT w) = rT w := fun _ => by cases w <;> rfl
        replace hN := Hide.mk hN
        walk_at "vn"
        intro P hP
        refine hP.go _ _ ?_
        clear hP
        walk_at "vn"
        refine ⟨w, rfl, o1, by omega, by omega, ?_⟩
        walk_at "vn"
        exact hN.go _ _ ⟨_, _, _, rfl, rfl⟩
      · rintro ρ S2 ⟨x2, x3, x4, rfl, rfl⟩
        walk_at "vn"
        exact hq.go
    | tab ns xs =>
      have hd : 1 + rdepthL xs < n + 1 := dw
      have hp : 1 + rpartsL xs ≤ 50000 := pw
      have lx := rpartsL_ge xs
      obtain ⟨ow, ln, on⟩ := ow
      simp only [rT, rTP_zip]
      have a0 : atI [Tr.str "table", .lst ((ns.zip xs).map fun q => Tr.tup [.str q.1, rT q.2])] 0 = some (.str "table") := atI_nat (j := 0) rfl
      have a1 : atI [Tr.str "table", .lst ((ns.zip xs).map fun q => Tr.tup [.str q.1, rT q.2])] 1 = some (.lst ((ns.zip xs).map fun q => Tr.tup [.str q.1, rT q.2])) := atI_nat (j := 1) rfl
      have lz : (ns.zip xs).length = xs.length := by rw [List.length_zip]; omega
      walk_at "vn"
      refine ⟨_, _, rfl, ?_⟩
      walk_at "vn"
      refine ⟨by omega, by omega, ?_⟩
      refine loop_inv _ (fun i ρ S2 => ∃ x2 x3 x4, ρ = [some (.tup [.str "table", .lst ((ns.zip xs).map fun q => Tr.tup [.str q.1, rT q.2])]), some (.tup [.str "table", .lst ((ns.zip xs).map fun q => Tr.tup [.str q.1, rT q.2])]), x2, x3, x4] ∧ S = S2) ?_ ?_ ⟨_, _, _, rfl, rfl⟩
      · rintro i x ρ S2 N hx ⟨x2, x3, x4, rfl, rfl⟩ hN
        obtain ⟨rfl, hi⟩ := rng_at hx
        clear hx
        have hi : i < (ns.zip xs).length := by rw [lz]; simpa [ln] using hi
        obtain ⟨⟨z, w⟩, hzw⟩ : ∃ q, (ns.zip xs)[i]? = some q := ⟨_, List.getElem?_eq_getElem hi⟩
        obtain ⟨hz, hw⟩ := List.getElem?_zip_eq_some.mp hzw
        have hw : xs[i]? = some w := hw
        have d1 := rdepth_get hw
        have p1 := rparts_get hw
        have o1 := ROkL.get ow hw
        have e1 : atI ((ns.zip xs).map fun q => Tr.tup [.str q.1, rT q.2]) (i : Int) = some (.tup [.str z, rT w]) := atI_nat (by rw [List.getElem?_map, hzw]; rfl)
        have b0 : atI [Tr.str z, rT w] 0 = some (.str z) := atI_nat (j := 0) rfl
        have b1 : atI [Tr.str z, rT w] 1 = some (rT w) := atI_nat (j := 1) rfl
        have vv : ∀ S', vw S' (rT w) = rT w := fun _ => by cases w <;> rfl
        replace hN := Hide.mk hN
        walk_at "vn"
        intro P hP
        refine ⟨_, _, rfl, ?_⟩
        walk_at "vn"
        refine hP.go _ _ ?_
        clear hP
        walk_at "vn"
        refine ⟨w, rfl, o1, by omega, by omega, ?_⟩
        walk_at "vn"
        exact hN.go _ _ ⟨_, _, _, rfl, rfl⟩
      · rintro ρ S2 ⟨x2, x3, x4, rfl, rfl⟩
        walk_at "vn"
        exact hq.go
    | non => simp only [rT]; walk_at "vn"; exact ⟨.non, trivial, rfl, hq.go⟩
    | bl b => simp only [rT]; walk_at "vn"; exact ⟨.bl b, trivial, rfl, hq.go⟩
    | int n => simp only [rT]; walk_at "vn"; exact ⟨.int n, trivial, rfl, hq.go⟩
    | str z => simp only [rT]; walk_at "vn"; exact ⟨.str z, trivial, rfl, hq.go⟩
theorem ok__law_raw_alike (T : Top K mg A) {k : Nat} (C__law_atoms : CalleeT P w K mg base k "_law_atoms" ["_law_one", "_law_other"] (sp_atoms)) (C__law_pair : CalleeT P w K mg base k "_law_pair" ["_law_found"] (sp_lpair)) : ∀ n, CalleeT P w K mg base (k + 1 * n) "_law_raw_alike" ["_law_raw", "_law_found"] (sp_rawalike n)
  | 0 => Def.botT (N := N__law_raw_alike) T.d__law_raw_alike (fun _ _ _ _ _ _ us hl => match us, hl with | [_, _], _ => rfl) (fun xs S Q X h => by
      obtain ⟨_, _, _, h, _⟩ := h
      omega)
  | n + 1 => by
    have C__law_raw_alike_0 := ok__law_raw_alike (k := k) T C__law_atoms C__law_pair n
    exact (step__law_raw_alike T (k := k + 1 * n + 0) (C__law_atoms.lift (by omega)) (C__law_pair.lift (by omega)) (C__law_raw_alike_0.lift (by omega))).lift (by omega)

/-! ### _law_raw_agrees -/
abbrev N__law_raw_agrees : List Str := ["_law_due_here", "_law_found"]
theorem sc__law_raw_agrees : FnScope N__law_raw_agrees ["_law_due_here", "_law_found"] (defScope s__law_raw_agrees) := ⟨rfl, rfl, rfl, by decide +kernel, rfl, by decide +kernel, by decide +kernel⟩
def sp_wagree : TSp := fun xs S Q X => ∃ a b : Tr, xs = [a, b] ∧ ((∃ w : RawV, a = .tup [.str "raw", rT w] ∧ b = .tup [.str "raw", rT w] ∧ rdepth w < 62 ∧ ROk w ∧ rparts w ≤ 50000) ∨ (∃ (z : Str) (p : List Key), a = .tup [.str "no", .str z, .lst (p.map kT)] ∧ b = .tup [.str "no", .str z, pathT p] ∧ (∀ k ∈ p, KOk k) ∧ p.length ≤ 1000)) ∧ Q (.bl true) S
theorem ok__law_raw_agrees (T : Top K mg A) {k : Nat} (C__law_path_is : CalleeT P w K mg base k "_law_path_is" ["_law_found", "_law_path"] (sp_pathis)) (C__law_raw_alike : CalleeT P w K mg base k "_law_raw_alike" ["_law_raw", "_law_found"] (sp_rawalike 62))  : CalleeT P w K mg base (k + 1) "_law_raw_agrees" ["_law_due_here", "_law_found"] (sp_wagree) := by
  have nd := sc__law_raw_agrees.nd
  refine Def.okT T.d__law_raw_agrees sc__law_raw_agrees (fun _ _ _ _ _ _ us hl => match us, hl with | [_, _], _ => rfl) (fun xs S Q X h => ?_) ?_ (fun f cdv AA outer s H E hr tk po => have hu := hu_of hr; (ss_cons (s_if (t_cmp (eq_op hr) o_eq (e_ix (ix_op hr) o_ix (e_var 0) e_int (fun _ _ => rfl)) e_str (nomark _)) (ss_one (s_ret (e_and (e_cmp (eq_op hr) o_eq (e_ix (ix_op hr) o_ix (e_var 1) e_int (fun _ _ => rfl)) e_str (nomark _)) (e_one (e_call C__law_raw_alike (hr.mono (by omega)) (by rfl) tk (a_cons (e_ix (ix_op hr) o_ix (e_var 0) e_int (fun _ _ => rfl)) (a_cons (e_ix (ix_op hr) o_ix (e_var 1) e_int (fun _ _ => rfl)) a_nil))))))) ss_nil)
      (ss_one (s_ret (e_and (e_cmp (eq_op hr) o_eq (e_ix (ix_op hr) o_ix (e_var 1) e_int (fun _ _ => rfl)) e_str (nomark _)) (e_and (e_cmp (eq_op hr) o_eq (e_ix (ix_op hr) o_ix (e_var 1) e_int (fun _ _ => rfl)) (e_ix (ix_op hr) o_ix (e_var 0) e_int (fun _ _ => rfl)) (nomark _)) (e_one (e_call C__law_path_is (hr.mono (by omega)) (by rfl) tk (a_cons (e_ix (ix_op hr) o_ix (e_var 1) e_int (fun _ _ => rfl)) (a_cons (e_ix (ix_op hr) o_ix (e_var 0) e_int (fun _ _ => rfl)) a_nil)))))))))) ?_
  · obtain ⟨a, b, rfl, h, hq⟩ := h
    rfl
  · walk_at "mono"
  · intro xs S Q X cQ cX h
    obtain ⟨a, b, rfl, h, hq⟩ := h
    simp only [KQ.startT, List.map_cons, List.map_nil, List.length_cons, List.length_nil, Nat.reduceAdd, Nat.reduceSub, List.replicate_succ, List.replicate_zero, List.cons_append, List.nil_append]
    replace hq := Hide.mk hq
    rcases h with ⟨v, rfl, rfl, dv, ov, pv⟩ | ⟨z, p, rfl, rfl, op, lp⟩
    · have b0 : atI [Tr.str "raw", rT v] 0 = some (.str "raw") := atI_nat (j := 0) rfl
      have b1 : atI [Tr.str "raw", rT v] 1 = some (rT v) := atI_nat (j := 1) rfl
      walk_at "vn"
      exact ⟨v, rfl, ov, dv, pv, hq.go⟩
    · have b0 : ∀ y, atI [Tr.str "no", .str z, y] 0 = some (.str "no") := fun y => atI_nat (j := 0) rfl
      have b1 : ∀ y, atI [Tr.str "no", .str z, y] 1 = some (.str z) := fun y => atI_nat (j := 1) rfl
      have b2 : ∀ y, atI [Tr.str "no", .str z, y] 2 = some y := fun y => atI_nat (j := 2) rfl
      unfold pathT
      walk_at "vn"
      exact ⟨p, rfl, op, lp, hq.go⟩

/-! ### is_integer -/
abbrev N_is_integer : List Str := ["value"]
theorem sc_is_integer : FnScope N_is_integer ["value"] (defScope s_is_integer) := ⟨rfl, rfl, rfl, by decide +kernel, rfl, by decide +kernel, by decide +kernel⟩
def sp_isint (C : Addr) : TSp := fun xs S Q X => ∃ v : Val, xs = [vT C v] ∧ Q (.bl (isI v)) S
theorem ok_is_integer (T : Top K mg A) {k : Nat}   : CalleeT P w K mg base (k + 1) "is_integer" ["value"] (sp_isint A.Table) := by
  have nd := sc_is_integer.nd
  refine Def.okT T.d_is_integer sc_is_integer (fun _ _ _ _ _ _ us hl => match us, hl with | [_], _ => rfl) (fun xs S Q X h => ?_) ?_ (fun f cdv AA outer s H E hr tk po => have hu := hu_of hr; (ss_one (s_ret (e_and (e_callB (g := gIsi K) call_isi c_isi (by rfl) T.b.b_isinstance boot_isinstance (a_cons (e_var 0) (a_cons (e_ty (by rfl) T.b.b_int boot_int) a_nil))) (e_one (e_not (e_callB (g := gIsi K) call_isi c_isi (by rfl) T.b.b_isinstance boot_isinstance (a_cons (e_var 0) (a_cons (e_ty (by rfl) T.b.b_bool boot_bool) a_nil))))))))) ?_
  · obtain ⟨v, rfl, hq⟩ := h
    rfl
  · walk_at "mono"
  · intro xs S Q X cQ cX h
    obtain ⟨v, rfl, hq⟩ := h
    have hT := And.intro T.c_Table.ci <| And.intro T.k_NoneType_Table <| And.intro T.k_bool_Table <| And.intro T.k_Table_bool <| And.intro T.k_int_Table <| And.intro T.k_Table_int <| And.intro T.k_str_Table <| And.intro T.k_Table_str <| And.intro T.k_list_Table <| And.intro T.k_Table_list <| And.intro T.k_tuple_Table <| And.intro T.k_Table_tuple <| And.intro T.k_dict_Table <| T.k_Table_Table
    simp only [KQ.startT, List.map_cons, List.map_nil, List.length_cons, List.length_nil, Nat.reduceAdd, Nat.reduceSub, List.replicate_succ, List.replicate_zero, List.cons_append, List.nil_append]
    cases v
    all_goals simp only [vT]
    all_goals walk_at "vc"
    all_goals exact hq

/-! ### Writer.raw_pairs -/
abbrev N_Writer_raw_pairs : List Str := ["self", "table", "path", "pairs", "seen", "key", "item", "name"]
theorem sc_Writer_raw_pairs : FnScope N_Writer_raw_pairs ["self", "table", "path"] (defScope s_Writer_raw_pairs) := ⟨rfl, rfl, rfl, by decide +kernel, rfl, by decide +kernel, by decide +kernel⟩
def sp_wpairs0 : TSp := fun xs S Q X => False
theorem ok_Writer_raw_pairs (T : Top K mg A) {k : Nat} : MthT P w K mg base (k + 1) A.Writer "raw_pairs" (sp_wpairs0) := by
  exact DefM.mthBot (ps := ["self", "table", "path"]) T.m_Writer_raw_pairs T.c_Writer.ci.cl (fun _ _ _ _ _ _ us hl => match us, hl with | [_, _, _], _ => rfl) (fun xs S Q X h => by
    exact h)

/-! ### Unwritable.__init__ -/
abbrev N_Unwritable___init__ : List Str := ["self", "reason", "path"]
theorem sc_Unwritable___init__ : FnScope N_Unwritable___init__ ["self", "reason", "path"] (defScope s_Unwritable___init__) := ⟨rfl, rfl, rfl, by decide +kernel, rfl, by decide +kernel, by decide +kernel⟩
theorem ok_Unwritable___init__ (T : Top K mg A) {k : Nat} : ExcT P w K mg base (k + 1) "Unwritable" A.Unwritable ["reason", "path"] :=
  DefM.excT T.m_Unwritable___init__ T.ox_Unwritable T.c_Unwritable.mg (List.forall_mem_cons.2 ⟨T.nf_Unwritable_reason, List.forall_mem_cons.2 ⟨T.nf_Unwritable_path, fun _ h => nomatch h⟩⟩) sc_Unwritable___init__ (fun _ _ _ _ _ _ us hl => match us, hl with | [_, _, _], _ => rfl) rfl (by decide) (by decide) (by decide) (fun _ _ _ _ _ h => start_at h) (fun f cdv A outer s H E => (pss_cons (ps_ost (pv 0) (pv 1)) (pss_one (ps_ost (pv 0) (pv 2)))))

/-! ### Writer.raw_at -/
abbrev N_Writer_raw_at : List Str := ["self", "value", "path", "index", "item"]
theorem sc_Writer_raw_at : FnScope N_Writer_raw_at ["self", "value", "path"] (defScope s_Writer_raw_at) := ⟨rfl, rfl, rfl, by decide +kernel, rfl, by decide +kernel, by decide +kernel⟩
def sp_rat0 (D B C : Addr) (n : Nat) : TSp := fun xs S Q X => ∃ (o : Tr) (r : Wo) (fs : List Str) (ys : List Tr) (v : Val) (p : List Key) (m : Nat), xs = [o, vT D v, pathT p] ∧ WtO o C r fs ys ∧ VOk v ∧ noTab v ∧ vdepth v < n ∧ vdepth v < m ∧ vdepth v ≤ 61 ∧ vparts v ≤ 10000 ∧ vdepth v + p.length ≤ 1000 ∧
  (∀ w, wrt r m v p = .ok w → Q (rT w) S) ∧ (∀ e, wrt r m v p = .error e → X (.ref B) ["reason", "path"] [.str e.1, pathT e.2] S)
theorem step_Writer_raw_at (T : Top K mg A) {k n : Nat} (C_is_integer : CalleeT P w K mg base k "is_integer" ["value"] (sp_isint A.Table)) (M_Writer_raw_pairs : MthT P w K mg base k A.Writer "raw_pairs" (sp_wpairs0)) (X_Unwritable : ExcT P w K mg base k "Unwritable" A.Unwritable ["reason", "path"]) (M_Writer_raw_at : MthT P w K mg base k A.Writer "raw_at" (sp_rat0 A.Table A.Unwritable A.Writer n)) (M_Writer_raw_at : MthT P w K mg base k A.Writer "raw_at" (sp_rat0 A.Table A.Unwritable A.Writer n)) : MthT P w K mg base (k + 1 + 1) A.Writer "raw_at" (sp_rat0 A.Table A.Unwritable A.Writer (n + 1)) := by
  have nd := sc_Writer_raw_at.nd
  refine DefM.mth T.m_Writer_raw_at T.c_Writer.ci.cl sc_Writer_raw_at (fun _ _ _ _ _ _ us hl => match us, hl with | [_, _, _], _ => rfl) (fun xs S Q X h => ?_) ?_ ⟨fun f cdv AA outer s H E hr tk po => have hu := hu_of hr; (ss_cons (s_if (t_val (e_isi1K (K := K) rfl (by rfl) T.b.b_isinstance (e_var 1) (pe_glob (v := .ref A.Table) (by rfl) T.c_Table.mg rfl (by decide)) (.own _))) (ss_one (s_ret (e_tup (a_cons e_str (a_cons (e_meth (ms := fun C t => C = A.Writer ∧ t = (sp_wpairs0)) (fun C t h => by obtain ⟨rfl, rfl⟩ := h; exact M_Writer_raw_pairs) (hr.mono (by omega)) tk (e_var 0) (a_cons (e_var 1) (a_cons (e_var 2) a_nil))) a_nil))))) ss_nil)
      (ss_cons (s_if (TPW.pt (w_and (t_val (e_callB (g := gIsi K) call_isi c_isi (by rfl) T.b.b_isinstance boot_isinstance (a_cons (e_var 1) (a_cons (e_ty (by rfl) T.b.b_tuple boot_tuple) a_nil)))) (w_and1 (t_cmp (eq_op hr) o_eq (e_fldK (K := K) rfl (e_var 0) rfl) e_str (nomark _))))) (ss_one (s_raise X_Unwritable rfl (hr.mono (by omega)) (by rfl) tk (a_cons e_str (a_cons (e_var 2) a_nil)))) ss_nil)
      (ss_cons (s_if (t_val (e_isi2K (K := K) rfl (by rfl) T.b.b_isinstance (e_var 1) (pe_bltn (v := .ty "list") (by rfl) T.b.b_list boot_list rfl) (.ty _) (pe_bltn (v := .ty "tuple") (by rfl) T.b.b_tuple boot_tuple rfl) (.ty _))) (ss_one (s_ret (e_tup (a_cons e_str (a_cons (e_lcX (own := [("index", 3), ("item", 4)]) (.tp [(.nm 3), (.nm 4)]) rfl nd rfl rfl tk (i_enum2 (by rfl) T.b.b_enumerate (a_cons (e_var 1) a_nil)) (blkOk_by (own := [("index", 3), ("item", 4)]) (N := N_Writer_raw_at) (sc := defScope s_Writer_raw_at) (by decide +kernel)) (by decide) (fun _ _ _ _ _ => (pg_tup rfl (pgs_cons (pg_name (i := 3) nd rfl (Or.inl rfl) (hf := Or.inr rfl)) (pgs_cons (pg_name (i := 4) nd rfl (Or.inl rfl) (hf := Or.inr rfl)) pgs_nil)))) (fun _ _ _ _ _ => ts_nil) (fun _ _ _ _ _ _ _ tk2 => (e_meth (ms := fun C t => C = A.Writer ∧ t = (sp_rat0 A.Table A.Unwritable A.Writer n)) (fun C t h => by obtain ⟨rfl, rfl⟩ := h; exact M_Writer_raw_at) (hr.mono (by omega)) tk2 (e_var 0) (a_cons (e_var 4) (a_cons (e_op ad_op o_add (e_var 2) (e_tup (a_cons (e_var 3) a_nil))) a_nil))))) a_nil))))) ss_nil)
      (ss_cons (s_if (TPW.pt (w_and (t_val (e_call C_is_integer (hr.mono (by omega)) (by rfl) tk (a_cons (e_var 1) a_nil))) (w_and (t_cmp op_gt o_gt (e_callB len_op c_len (by rfl) T.b.b_len boot_len (a_cons (e_callTy str4 c_str4 (by rfl) T.b.b_str boot_str (a_cons (e_callB call_abs c_abs (by rfl) T.b.b_abs boot_abs (a_cons (e_var 1) a_nil)) a_nil)) a_nil)) (e_cval (K := K) rfl (e_cls (by rfl) T.c_Writer.mg) T.cv_Writer_DIGITS) (nomark _)) (w_and1 (t_cmp (ne_op hr) o_eq (e_fldK (K := K) rfl (e_var 0) rfl) e_str (nomark _)))))) (ss_cons (s_if (t_cmp (eq_op hr) o_eq (e_fldK (K := K) rfl (e_var 0) rfl) e_str (nomark _)) (ss_one (s_raise X_Unwritable rfl (hr.mono (by omega)) (by rfl) tk (a_cons e_str (a_cons (e_var 2) a_nil)))) ss_nil)
      (ss_one (s_ret (e_callTy str4 c_str4 (by rfl) T.b.b_str boot_str (a_cons (e_var 1) a_nil))))) ss_nil)
      (ss_one (s_ret (e_var 1)))))))⟩ ?_
  · obtain ⟨o, r, fs, ys, v, p, m, rfl, ho, ow, nt, dw, dm, dw2, pw, dp, h1, h2⟩ := h
    rfl
  · walk_at "mono"
  · intro xs S Q X cQ cX h
    obtain ⟨o, r, fs, ys, v, p, m, rfl, ho, ow, nt, dw, dm, dw2, pw, dp, h1, h2⟩ := h
    have hT := And.intro T.c_Table.ci <| And.intro T.k_NoneType_Table <| And.intro T.k_bool_Table <| And.intro T.k_Table_bool <| And.intro T.k_int_Table <| And.intro T.k_Table_int <| And.intro T.k_str_Table <| And.intro T.k_Table_str <| And.intro T.k_list_Table <| And.intro T.k_Table_list <| And.intro T.k_tuple_Table <| And.intro T.k_Table_tuple <| And.intro T.k_dict_Table <| And.intro T.k_Table_Table <| And.intro T.k_Table_Writer <| And.intro T.c_Writer.ci <| And.intro T.f_Writer_tuples <| And.intro T.f_Writer_long_numbers <| And.intro T.k_NoneType_Writer <| And.intro T.k_bool_Writer <| And.intro T.k_Writer_bool <| And.intro T.k_int_Writer <| And.intro T.k_Writer_int <| And.intro T.k_str_Writer <| And.intro T.k_Writer_str <| And.intro T.k_list_Writer <| And.intro T.k_Writer_list <| And.intro T.k_tuple_Writer <| And.intro T.k_Writer_tuple <| And.intro T.k_dict_Writer <| And.intro T.k_Writer_Table <| T.k_Writer_Writer
    simp only [KQ.startT, List.map_cons, List.map_nil, List.length_cons, List.length_nil, Nat.reduceAdd, Nat.reduceSub, List.replicate_succ, List.replicate_zero, List.cons_append, List.nil_append]
    have ho2 := ho
    obtain ⟨rfl, e1, e2, e3, e4, e5, e6, no⟩ := ho
    replace no := Hide.mk no
    obtain ⟨m, rfl⟩ : ∃ k, m = k + 1 := ⟨m - 1, by omega⟩
    replace h1 := Hide.mk h1
    replace h2 := Hide.mk h2
    cases v with
    | lst xs =>
      have er : wrt r (m + 1) (.lst xs) p = wR (wrt r m) xs p := rfl
      have nt : noTabL xs := nt
      have hd : 1 + vdepthL xs < n + 1 := dw
      have hm : 1 + vdepthL xs < m + 1 := dm
      have hd2 : 1 + vdepthL xs ≤ 61 := dw2
      have hp : 1 + vpartsL xs ≤ 10000 := pw
      have hl : 1 + vdepthL xs + p.length ≤ 1000 := dp
      have lx := vpartsL_ge xs
      have ow : VOkL xs := ow
      simp only [vT, vTL_map]
      walk_at "vn"
      refine lcX_inv _ (fun i acc S' => ∃ ws, acc = rTL ws ∧ ws.length = i ∧ S' = S ∧ wL (wrt r m) xs 0 p = (match wL (wrt r m) (xs.drop i) i p with | .error e => .error e | .ok us => .ok (ws ++ us))) ?_ ?_ ⟨[], rfl, rfl, rfl, by rw [List.drop_zero]; cases wL (wrt r m) xs 0 p <;> rfl⟩
      · rintro i x acc S' N hx ⟨ws, rfl, lv, rfl, hb⟩ hN
        obtain ⟨y, hy, rfl⟩ := enumT_get _ _ _ _ hx
        rw [List.getElem?_map] at hy
        obtain ⟨w, hw, rfl⟩ := Option.map_eq_some_iff.mp hy
        have hi := (List.getElem?_eq_some_iff.mp hw).1
        have d1 := vdepth_get hw
        have p1 := vparts_get hw
        have o1 := VOkL.get ow hw
        have n1 := noTabL_get nt hw
        rw [List.drop_eq_getElem_cons hi, (List.getElem?_eq_some_iff.mp hw).2, wL] at hb
        clear hx hy
        rw [show (0 + i : Nat) = i from Nat.zero_add i]
        replace hN := Hide.mk hN
        have lt : (rTL ws).length < sizeLine := szn (by rw [rTL_map, List.length_map]; omega)
        unfold pathT
        walk_at "vn"
        refine ⟨no.go _ (by decide), Nat.le_of_lt (szn (by rw [List.length_singleton]; omega)), ?_⟩
        rw [show p.map kT ++ [Tr.int (i : Nat)] = (p ++ [Sum.inl (i : Int)]).map kT by rw [List.map_append]; rfl]
        refine ⟨_, r, fs, ys, w, p ++ [Sum.inl (i : Int)], m, rfl, ho2, o1, n1, by omega, by omega, by omega, by omega, by rw [List.length_append, List.length_singleton]; omega, fun u hv => ?_, fun e he => ?_⟩
        · rw [hv] at hb
          refine hN.go _ _ ⟨ws ++ [u], by rw [rTL_map, rTL_map, List.map_append]; rfl, by rw [List.length_append, lv]; rfl, rfl, ?_⟩
          rw [hb]
          cases wL (wrt r m) (xs.drop (i + 1)) (i + 1) p with
          | error e => rfl
          | ok us => show Except.ok _ = Except.ok _; rw [List.append_assoc]; rfl
        · rw [he] at hb
          refine h2.go e ?_
          rw [er, wR, hb]
      · rintro acc S' ⟨ws, rfl, lv, rfl, hb⟩
        rw [enumT_len, List.length_map] at lv hb
        rw [List.drop_length, wL] at hb
        have hb : wL (wrt r m) xs 0 p = .ok ws := by rw [hb]; show Except.ok _ = _; rw [List.append_nil]
        have := h1.go (.row ws) (by rw [er, wR, hb])
        rw [rT] at this
        refine ⟨trivial, ?_⟩
        walk_at "vn"
        all_goals exact this
    | tup xs =>
      have nt : noTabL xs := nt
      have hd : 1 + vdepthL xs < n + 1 := dw
      have hm : 1 + vdepthL xs < m + 1 := dm
      have hd2 : 1 + vdepthL xs ≤ 61 := dw2
      have hp : 1 + vpartsL xs ≤ 10000 := pw
      have hl : 1 + vdepthL xs + p.length ≤ 1000 := dp
      have lx := vpartsL_ge xs
      have ow : VOkL xs := ow
      simp only [vT, vTL_map]
      walk_at "vn"
      by_cases ht : r.tups = Str.ofString "refuse"
      · rw [if_pos ht]
        walk_at "vn"
        all_goals exact h2.go ("tuple", p) (if_pos ht)
      rw [if_neg ht]
      have er : wrt r (m + 1) (.tup xs) p = wR (wrt r m) xs p := if_neg ht
      walk_at "vn"
      refine lcX_inv _ (fun i acc S' => ∃ ws, acc = rTL ws ∧ ws.length = i ∧ S' = S ∧ wL (wrt r m) xs 0 p = (match wL (wrt r m) (xs.drop i) i p with | .error e => .error e | .ok us => .ok (ws ++ us))) ?_ ?_ ⟨[], rfl, rfl, rfl, by rw [List.drop_zero]; cases wL (wrt r m) xs 0 p <;> rfl⟩
      · rintro i x acc S' N hx ⟨ws, rfl, lv, rfl, hb⟩ hN
        obtain ⟨y, hy, rfl⟩ := enumT_get _ _ _ _ hx
        rw [List.getElem?_map] at hy
        obtain ⟨w, hw, rfl⟩ := Option.map_eq_some_iff.mp hy
        have hi := (List.getElem?_eq_some_iff.mp hw).1
        have d1 := vdepth_get hw
        have p1 := vparts_get hw
        have o1 := VOkL.get ow hw
        have n1 := noTabL_get nt hw
        rw [List.drop_eq_getElem_cons hi, (List.getElem?_eq_some_iff.mp hw).2, wL] at hb
        clear hx hy
        rw [show (0 + i : Nat) = i from Nat.zero_add i]
        replace hN := Hide.mk hN
        have lt : (rTL ws).length < sizeLine := szn (by rw [rTL_map, List.length_map]; omega)
        unfold pathT
        walk_at "vn"
        refine ⟨no.go _ (by decide), Nat.le_of_lt (szn (by rw [List.length_singleton]; omega)), ?_⟩
        rw [show p.map kT ++ [Tr.int (i : Nat)] = (p ++ [Sum.inl (i : Int)]).map kT by rw [List.map_append]; rfl]
        refine ⟨_, r, fs, ys, w, p ++ [Sum.inl (i : Int)], m, rfl, ho2, o1, n1, by omega, by omega, by omega, by omega, by rw [List.length_append, List.length_singleton]; omega, fun u hv => ?_, fun e he => ?_⟩
        · rw [hv] at hb
          refine hN.go _ _ ⟨ws ++ [u], by rw [rTL_map, rTL_map, List.map_append]; rfl, by rw [List.length_append, lv]; rfl, rfl, ?_⟩
          rw [hb]
          cases wL (wrt r m) (xs.drop (i + 1)) (i + 1) p with
          | error e => rfl
          | ok us => show Except.ok _ = Except.ok _; rw [List.append_assoc]; rfl
        · rw [he] at hb
          refine h2.go e ?_
          rw [er, wR, hb]
      · rintro acc S' ⟨ws, rfl, lv, rfl, hb⟩
        rw [enumT_len, List.length_map] at lv hb
        rw [List.drop_length, wL] at hb
        have hb : wL (wrt r m) xs 0 p = .ok ws := by rw [hb]; show Except.ok _ = _; rw [List.append_nil]
        have := h1.go (.row ws) (by rw [er, wR, hb])
        rw [rT] at this
        refine ⟨trivial, ?_⟩
        walk_at "vn"
        all_goals exact this
    | tab ks xs => exact nt.elim
    | int i =>
      have ow : i.natAbs < 10 ^ 30 := ow
      have e := wI_cases r i p
      have h1 := h1.go
      have h2 := h2.go
      have er : wrt r (m + 1) (.int i) p = wI r i p := rfl
      rw [er] at h1 h2
      have lg : ((i.natAbs : Int)).natAbs.log2 < 1920 := log_int (n := (i.natAbs : Int)) (by simpa using ow)
      have lg2 : i.natAbs.log2 < 1920 := log_int ow
      replace h1 := Hide.mk h1
      replace h2 := Hide.mk h2
      simp only [vT]
      walk_at "vn"
      refine ⟨.int i, rfl, ?_⟩
      walk_at "vn"
      rw [if_pos (show isI (.int i) = true from rfl)]
      have ll := (intS_ok (n := (i.natAbs : Int)) (by simpa using ow)).2
      refine ⟨Nat.le_of_lt (szn (show (Str.ofString (toString (i.natAbs : Int))).length ≤ _ from Nat.le_trans ll (by decide))), ?_⟩
      have h1 := h1.go
      have h2 := h2.go
      rw [e] at h1 h2
      by_cases hg : (15 : Int) < ((Str.ofString (toString (i.natAbs : Int))).length : Int)
      · rw [if_pos hg]
        have hg2 : longI i = true := decide_eq_true hg
        by_cases hk : r.longs = Str.ofString "keep"
        · rw [if_neg (fun z => z hk)]
          exact h1 _ (if_neg (fun z => z.2 hk))
        · rw [if_pos hk]
          by_cases hf : r.longs = Str.ofString "refuse"
          · rw [if_pos hf]
            exact h2 ("long", p) ((if_pos ⟨hg2, hk⟩).trans (if_pos hf))
          · rw [if_neg hf]
            exact h1 (.str (intS i)) ((if_pos ⟨hg2, hk⟩).trans (if_neg hf))
      · rw [if_neg hg]
        exact h1 (.int i) (if_neg (fun z => hg (of_decide_eq_true z.1)))
    | non => have := h1.go .non rfl; simp only [rT] at this; simp only [vT]; walk_at "vn"; refine ⟨.non, rfl, ?_⟩; walk_at "vn"; rw [if_neg (show ¬ isI .non = true from fun h => by cases h)]; first | exact this | trivial
    | bl b => have := h1.go (.bl b) rfl; simp only [rT] at this; simp only [vT]; walk_at "vn"; refine ⟨.bl b, rfl, ?_⟩; walk_at "vn"; rw [if_neg (show ¬ isI (.bl b) = true from fun h => by cases h)]; first | exact this | trivial
    | str z => have := h1.go (.str z) rfl; simp only [rT] at this; simp only [vT]; walk_at "vn"; refine ⟨.str z, rfl, ?_⟩; walk_at "vn"; rw [if_neg (show ¬ isI (.str z) = true from fun h => by cases h)]; first | exact this | trivial
theorem ok_Writer_raw_at (T : Top K mg A) {k : Nat} (C_is_integer : CalleeT P w K mg base k "is_integer" ["value"] (sp_isint A.Table)) (M_Writer_raw_pairs : MthT P w K mg base k A.Writer "raw_pairs" (sp_wpairs0)) (X_Unwritable : ExcT P w K mg base k "Unwritable" A.Unwritable ["reason", "path"]) : ∀ n, MthT P w K mg base (k + 2 * n) A.Writer "raw_at" (sp_rat0 A.Table A.Unwritable A.Writer n)
  | 0 => DefM.mthBot (ps := ["self", "value", "path"]) T.m_Writer_raw_at T.c_Writer.ci.cl (fun _ _ _ _ _ _ us hl => match us, hl with | [_, _, _], _ => rfl) (fun xs S Q X h => by
      obtain ⟨_, _, _, _, _, _, _, _, _, _, _, h, _⟩ := h
      omega)
  | n + 1 => by
    have M_Writer_raw_at_0 := ok_Writer_raw_at (k := k) T C_is_integer M_Writer_raw_pairs X_Unwritable n
    exact (step_Writer_raw_at T (k := k + 2 * n + 0) (C_is_integer.lift (by omega)) (M_Writer_raw_pairs.lift (by omega)) (X_Unwritable.lift (by omega)) (M_Writer_raw_at_0.lift (by omega)) (M_Writer_raw_at_0.lift (by omega))).lift (by omega)

/-! ### Writer.raw -/
abbrev N_Writer_raw : List Str := ["self", "value"]
theorem sc_Writer_raw : FnScope N_Writer_raw ["self", "value"] (defScope s_Writer_raw) := ⟨rfl, rfl, rfl, by decide +kernel, rfl, by decide +kernel, by decide +kernel⟩
def sp_raw0 (D B C : Addr) : TSp := fun xs S Q X => ∃ (o : Tr) (r : Wo) (fs : List Str) (ys : List Tr) (v : Val), xs = [o, vT D v] ∧ WtO o C r fs ys ∧ VOk v ∧ noTab v ∧ vdepth v ≤ 60 ∧ vparts v ≤ 10000 ∧
  (∀ w, wrt r 62 v [] = .ok w → Q (rT w) S) ∧ (∀ e, wrt r 62 v [] = .error e → X (.ref B) ["reason", "path"] [.str e.1, pathT e.2] S)
theorem ok_Writer_raw (T : Top K mg A) {k : Nat} (M_Writer_raw_at : MthT P w K mg base k A.Writer "raw_at" (sp_rat0 A.Table A.Unwritable A.Writer 62))  : MthT P w K mg base (k + 1) A.Writer "raw" (sp_raw0 A.Table A.Unwritable A.Writer) := by
  have nd := sc_Writer_raw.nd
  refine DefM.mth T.m_Writer_raw T.c_Writer.ci.cl sc_Writer_raw (fun _ _ _ _ _ _ us hl => match us, hl with | [_, _], _ => rfl) (fun xs S Q X h => ?_) ?_ ⟨fun f cdv AA outer s H E hr tk po => have hu := hu_of hr; (ss_one (s_ret (e_meth (ms := fun C t => C = A.Writer ∧ t = (sp_rat0 A.Table A.Unwritable A.Writer 62)) (fun C t h => by obtain ⟨rfl, rfl⟩ := h; exact M_Writer_raw_at) (hr.mono (by omega)) tk (e_var 0) (a_cons (e_var 1) (a_cons (e_tup a_nil) a_nil)))))⟩ ?_
  · obtain ⟨o, r, fs, ys, v, rfl, ho, ow, nt, dw, pw, h1, h2⟩ := h
    rfl
  · walk_at "mono"
  · intro xs S Q X cQ cX h
    obtain ⟨o, r, fs, ys, v, rfl, ho, ow, nt, dw, pw, h1, h2⟩ := h
    simp only [KQ.startT, List.map_cons, List.map_nil, List.length_cons, List.length_nil, Nat.reduceAdd, Nat.reduceSub, List.replicate_succ, List.replicate_zero, List.cons_append, List.nil_append]
    have no := ho.no
    obtain ⟨e0, _⟩ := id ho
    subst e0
    replace no := Hide.mk no
    walk_at "vn"
    exact ⟨no.go _ (by decide), _, r, fs, ys, v, [], 62, rfl, ho, ow, nt, by omega, by omega, by omega, pw, by simp; omega, h1, h2⟩

/-! ### _law_raw_of -/
abbrev N__law_raw_of : List Str := ["_law_writer_here", "_law_value", "_law_raw", "e"]
theorem sc__law_raw_of : FnScope N__law_raw_of ["_law_writer_here", "_law_value"] (defScope s__law_raw_of) := ⟨rfl, rfl, rfl, by decide +kernel, rfl, by decide +kernel, by decide +kernel⟩
def sp_wrof0 (D C : Addr) : TSp := fun xs S Q X => ∃ (r : Wo) (v : Val), xs = [wtT C r, vT D v] ∧ VOk v ∧ noTab v ∧ vdepth v ≤ 60 ∧ vparts v ≤ 10000 ∧
  (∀ w, wrt r 62 v [] = .ok w → Q (.tup [.str "raw", rT w]) S) ∧ (∀ e, wrt r 62 v [] = .error e → Q (.tup [.str "no", .str e.1, pathT e.2]) S)
theorem ok__law_raw_of (T : Top K mg A) {k : Nat} (M_Writer_raw : MthT P w K mg base k A.Writer "raw" (sp_raw0 A.Table A.Unwritable A.Writer))  : CalleeT P w K mg base (k + 1) "_law_raw_of" ["_law_writer_here", "_law_value"] (sp_wrof0 A.Table A.Writer) := by
  have nd := sc__law_raw_of.nd
  refine Def.okT T.d__law_raw_of sc__law_raw_of (fun _ _ _ _ _ _ us hl => match us, hl with | [_, _], _ => rfl) (fun xs S Q X h => ?_) ?_ (fun f cdv AA outer s H E hr tk po => have hu := hu_of hr; (ss_cons (s_try (K := K) rfl rfl rfl tk (fun W pn xe tk po => (ss_one (s_set (i := 2) nd rfl (Or.inl rfl) (e_meth (ms := fun C t => C = A.Writer ∧ t = (sp_raw0 A.Table A.Unwritable A.Writer)) (fun C t h => by obtain ⟨rfl, rfl⟩ := h; exact M_Writer_raw) (hr.mono (by omega)) tk (e_var 0) (a_cons (e_var 1) a_nil))))) (.named (i := 3) nd rfl rfl ⟨by rfl, by decide, .inl T.c_Unwritable.mg⟩ (fun e d o k pn z f => (ss_one (s_ret (e_tup (a_cons e_str (a_cons (e_xf z f (K := K) rfl (e_var 3) rfl) (a_cons (e_xf z f (K := K) rfl (e_var 3) rfl) a_nil))))))) (.only ⟨by rfl, by decide, .inl T.c_KeysError.mg⟩ (fun e d o k pn z f => (ss_one (s_ret (e_tup (a_cons e_str (a_cons e_str (a_cons (e_tup a_nil) a_nil))))))) .nil)))
      (ss_one (s_ret (e_tup (a_cons e_str (a_cons (e_var 2) a_nil))))))) ?_
  · obtain ⟨r, v, rfl, ov, nt, dv, pv, h1, h2⟩ := h
    rfl
  · walk_at "mono"
  · intro xs S Q X cQ cX h
    obtain ⟨r, v, rfl, ov, nt, dv, pv, h1, h2⟩ := h
    have hT := And.intro T.xc_BadOption <| And.intro T.em_BadOption_KeysError <| And.intro T.em_BadOption_Unwritable <| And.intro T.xc_Unwritable <| And.intro T.em_Unwritable_KeysError <| T.em_Unwritable_Unwritable
    simp only [KQ.startT, List.map_cons, List.map_nil, List.length_cons, List.length_nil, Nat.reduceAdd, Nat.reduceSub, List.replicate_succ, List.replicate_zero, List.cons_append, List.nil_append]
    replace h1 := Hide.mk h1
    replace h2 := Hide.mk h2
    have nf1 := T.nf_Unwritable_reason
    have nf2 := T.nf_Unwritable_path
    walk_at "vn"
    refine ⟨_, _, _, rfl, rfl, (wt_obj (C := A.Writer) (w := r)).no "raw" (by decide), _, r, _, _, v, rfl, wt_obj (C := A.Writer), ov, nt, dv, pv, fun w hw => ?_, fun e he => ?_⟩
    · walk_at "vn"
      all_goals exact h1.go w hw
    · have h3 := h2.go e he
      clear h1 h2
      walk_at "vn"
      all_goals exact h3

/-! ### _law_more -/
abbrev N__law_more : List Str := ["_law_source_here", "_law_cells", "_law_at", "_law_cell", "_law_mixed"]
theorem sc__law_more : FnScope N__law_more ["_law_source_here"] (defScope s__law_more) := ⟨rfl, rfl, rfl, by decide +kernel, rfl, by decide +kernel, by decide +kernel⟩
def sp_more : TSp := fun xs S Q X => ∃ (a : Addr) (ns : List Int) (at_ seed room long : Int), xs = [.ref a] ∧ S a = some (srcT ns at_ 0 seed room long) ∧ 0 ≤ at_ ∧
  ∀ at' rest' seed', 0 ≤ at' → 0 ≤ rest' → Q .non (put S a (srcT ns at' rest' seed' room long))
theorem ok__law_more (T : Top K mg A) {k : Nat}   : CalleeT P w K mg base (k + 1) "_law_more" ["_law_source_here"] (sp_more) := by
  have nd := sc__law_more.nd
  refine Def.okT T.d__law_more sc__law_more (fun _ _ _ _ _ _ us hl => match us, hl with | [_], _ => rfl) (fun xs S Q X h => ?_) ?_ (fun f cdv AA outer s H E hr tk po => have hu := hu_of hr; (ss_cons (s_set (i := 1) nd rfl (Or.inl rfl) (e_ix (ix_op hr) o_ix (e_var 0) e_str (fun _ _ => rfl)))
      (ss_cons (s_set (i := 2) nd rfl (Or.inl rfl) (e_ix (ix_op hr) o_ix (e_var 0) e_str (fun _ _ => rfl)))
      (ss_cons (s_set (i := 3) nd rfl (Or.inl rfl) (e_var 2))
      (ss_cut (s_if (t_cmp op_lt o_lt (e_var 2) (e_callB len_op c_len (by rfl) T.b.b_len boot_len (a_cons (e_var 1) a_nil)) (nomark _)) (ss_one (s_set (i := 3) nd rfl (Or.inl rfl) (e_ix (ix_op hr) o_ix (e_var 1) (e_var 2) (fun _ _ => rfl)))) ss_nil)
      (ss_cons (s_set (i := 4) nd rfl (Or.inl rfl) (e_op KB.md_any o_mod (e_callTy KB.int_any c_int (by rfl) T.b.b_int boot_int (a_cons (e_op ad_op o_add (e_op ad_op o_add (e_op ml2_op o_mul2 (e_var 3) e_int) (e_op ml2_op o_mul2 (e_ix (ix_op hr) o_ix (e_var 0) e_str (fun _ _ => rfl)) e_int)) (e_var 2)) a_nil)) e_int))
      (ss_cons (s_dput hu (e_var 0) e_str (e_op ad_op o_add (e_var 2) e_int) rfl)
      (ss_cons (s_dput hu (e_var 0) e_str (e_var 4) rfl)
      (ss_cons (s_dput hu (e_var 0) e_str (e_op ad_op o_add e_int (e_op KB.md_any o_mod (e_callTy KB.int_any c_int (by rfl) T.b.b_int boot_int (a_cons (e_op ad_op o_add (e_op ml2_op o_mul2 (e_var 4) e_int) e_int) a_nil)) e_int)) rfl)
      (ss_one (s_if (t_cmp op_ge o_ge (e_callB call_abs c_abs (by rfl) T.b.b_abs boot_abs (a_cons (e_var 3) a_nil)) (e_op op_pow o_pow e_int e_int) (nomark _)) (ss_one (s_dput hu (e_var 0) e_str (e_callB call_abs c_abs (by rfl) T.b.b_abs boot_abs (a_cons (e_var 3) a_nil)) rfl)) ss_nil))))))))))) ?_
  · obtain ⟨a, ns, at_, seed, room, long, rfl, hS, h0, hq⟩ := h
    rfl
  · walk_at "mono"
  · intro xs S Q X cQ cX h
    obtain ⟨a, ns, at_, seed, room, long, rfl, hS, h0, hq⟩ := h
    simp only [KQ.startT, List.map_cons, List.map_nil, List.length_cons, List.length_nil, Nat.reduceAdd, Nat.reduceSub, List.replicate_succ, List.replicate_zero, List.cons_append, List.nil_append]
    walk_at "vc"
    intro p hp
    have key : ∀ c : Int, p [some (.ref a), some (.lst (ns.map Tr.int)), some (.int at_), some (.int c), none] S := fun c => by
      refine hp.go _ _ ?_
      have e1 := Int.emod_nonneg (c * 48271 + seed * 69621 + at_) (by decide : (2147483647 : Int) ≠ 0)
      have e2 := Int.emod_lt_of_pos (c * 48271 + seed * 69621 + at_) (by decide : (0 : Int) < 2147483647)
      have e3 := Int.emod_nonneg ((c * 48271 + seed * 69621 + at_) % 2147483647 * 16807 + 40692) (by decide : (2147483399 : Int) ≠ 0)
      walk_at "vc"
      split
      · exact hq _ _ _ (by omega) (by omega)
      · exact hq _ _ _ (by omega) (by omega)
    split
    · rename_i hl
      obtain ⟨n, en⟩ := int_at (ns := ns) h0 (by simpa using hl)
      exact ⟨_, en, key n⟩
    · exact key at_

/-! ### _law_draw -/
abbrev N__law_draw : List Str := ["_law_source_here", "_law_many", "_law_found"]
theorem sc__law_draw : FnScope N__law_draw ["_law_source_here", "_law_many"] (defScope s__law_draw) := ⟨rfl, rfl, rfl, by decide +kernel, rfl, by decide +kernel, by decide +kernel⟩
theorem ok__law_draw (T : Top K mg A) {k : Nat} (C__law_more : CalleeT P w K mg base k "_law_more" ["_law_source_here"] (sp_more))  : CalleeT P w K mg base (k + 1) "_law_draw" ["_law_source_here", "_law_many"] (sp_draw) := by
  have nd := sc__law_draw.nd
  refine Def.okT T.d__law_draw sc__law_draw (fun _ _ _ _ _ _ us hl => match us, hl with | [_, _], _ => rfl) (fun xs S Q X h => ?_) ?_ (fun f cdv AA outer s H E hr tk po => have hu := hu_of hr; (ss_cut (s_if (t_cmp (eq_op hr) o_eq (e_ix (ix_op hr) o_ix (e_var 0) e_str (fun _ _ => rfl)) e_int (nomark _)) (ss_one (s_expr (e_call C__law_more (hr.mono (by omega)) (by rfl) tk (a_cons (e_var 0) a_nil)))) ss_nil)
      (ss_cons (s_set (i := 2) nd rfl (Or.inl rfl) (e_op KB.md_any o_mod (e_callTy KB.int_any c_int (by rfl) T.b.b_int boot_int (a_cons (e_ix (ix_op hr) o_ix (e_var 0) e_str (fun _ _ => rfl)) a_nil)) (e_var 1)))
      (ss_cons (s_dput hu (e_var 0) e_str (e_op KB.fd_any o_fd (e_ix (ix_op hr) o_ix (e_var 0) e_str (fun _ _ => rfl)) (e_var 1)) rfl)
      (ss_one (s_ret (e_var 2))))))) ?_
  · obtain ⟨a, m, c, rfl, hS, ⟨ns, at_, rest, seed, room, long, rfl, h0, h1⟩, m0, m1, hq⟩ := h
    rfl
  · walk_at "mono"
  · intro xs S Q X cQ cX h
    obtain ⟨a, m, c, rfl, hS, ⟨ns, at_, rest, seed, room, long, rfl, h0, h1⟩, m0, m1, hq⟩ := h
    simp only [KQ.startT, List.map_cons, List.map_nil, List.length_cons, List.length_nil, Nat.reduceAdd, Nat.reduceSub, List.replicate_succ, List.replicate_zero, List.cons_append, List.nil_append]
    walk_at "vc"
    intro p hp
    have key : ∀ (S' : Sto) (at_ rest seed : Int), 0 ≤ at_ → 0 ≤ rest → S' a = some (srcT ns at_ rest seed room long) → (∀ c, put S' a c = put S a c) → p [some (.ref a), some (.int m), none] S' := fun S' at_ rest seed h0 h1 hS' hp' => by
      refine hp.go _ _ ?_
      have e1 := Int.emod_nonneg rest (by omega : m ≠ 0)
      have e2 := Int.emod_lt_of_pos rest m0
      have e3 := Int.ediv_nonneg h1 (Int.le_of_lt m0)
      have e4 := cdiv_ok (i := rest) m0 m1
      walk_at "vc"
      exact hq _ _ e1 e2 ⟨⟨ns, at_, rest / m, seed, room, long, rfl, h0, e3⟩, rfl⟩
    split
    · rename_i e
      subst e
      exact ⟨a, ns, at_, seed, room, long, rfl, hS, h0, fun at' rest' seed' g0 g1 => key _ at' rest' seed' g0 g1 put_same fun c => put_put⟩
    · exact key S at_ rest seed h0 h1 hS fun _ => rfl

/-! ### _law_number -/
abbrev N__law_number : List Str := ["_law_source_here", "_law_figures", "_law_number_here", "_law_k"]
theorem sc__law_number : FnScope N__law_number ["_law_source_here"] (defScope s__law_number) := ⟨rfl, rfl, rfl, by decide +kernel, rfl, by decide +kernel, by decide +kernel⟩
theorem ok__law_number (T : Top K mg A) {k : Nat} (C__law_draw : CalleeT P w K mg base k "_law_draw" ["_law_source_here", "_law_many"] (sp_draw))  : CalleeT P w K mg base (k + 1) "_law_number" ["_law_source_here"] (sp_some IsNum) := by
  have nd := sc__law_number.nd
  refine Def.okT T.d__law_number sc__law_number (fun _ _ _ _ _ _ us hl => match us, hl with | [_], _ => rfl) (fun xs S Q X h => ?_) ?_ (fun f cdv AA outer s H E hr tk po => have hu := hu_of hr; (ss_cons (s_set (i := 1) nd rfl (Or.inl rfl) (e_op ad_op o_add e_int (e_call C__law_draw (hr.mono (by omega)) (by rfl) tk (a_cons (e_var 0) (a_cons e_int a_nil)))))
      (ss_cut (s_if (t_cmp (eq_op hr) o_eq (e_call C__law_draw (hr.mono (by omega)) (by rfl) tk (a_cons (e_var 0) (a_cons e_int a_nil))) e_int (nomark _)) (ss_one (s_set (i := 1) nd rfl (Or.inl rfl) (e_op ad_op o_add e_int (e_call C__law_draw (hr.mono (by omega)) (by rfl) tk (a_cons (e_var 0) (a_cons e_int a_nil)))))) ss_nil)
      (ss_cons (s_set (i := 2) nd rfl (Or.inl rfl) e_int)
      (ss_cons (s_for (.nm 3) po rfl (i_rng1 (by rfl) T.b.b_range (a_cons (e_var 1) a_nil)) (pg_name (i := 3) nd rfl (Or.inl rfl)) (ss_one (s_set (i := 2) nd rfl (Or.inl rfl) (e_op ad_op o_add (e_op ml2_op o_mul2 (e_var 2) e_int) (e_call C__law_draw (hr.mono (by omega)) (by rfl) tk (a_cons (e_var 0) (a_cons e_int a_nil)))))))
      (ss_cons (s_if (t_cmp (eq_op hr) o_eq (e_call C__law_draw (hr.mono (by omega)) (by rfl) tk (a_cons (e_var 0) (a_cons e_int a_nil))) e_int (nomark _)) (ss_one (s_ret (e_un un_neg u_neg (e_var 2)))) ss_nil)
      (ss_one (s_ret (e_var 2))))))))) ?_
  · obtain ⟨a, c, rfl, hS, hc, hq⟩ := h
    rfl
  · walk_at "mono"
  · intro xs S Q X cQ cX h
    obtain ⟨a, c, rfl, hS, hc, hq⟩ := h
    simp only [KQ.startT, List.map_cons, List.map_nil, List.length_cons, List.length_nil, Nat.reduceAdd, Nat.reduceSub, List.replicate_succ, List.replicate_zero, List.cons_append, List.nil_append]
    walk_at "vc"
    refine draw_ok hS hc (by decide) (by decide) fun r c1 r0 r1 d1 => ?_
    walk_at "vc"
    intro p hp
    have key : ∀ (f : Int) (c1 : Tr), 0 ≤ f → f ≤ 30 → Drw c c1 → p [some (.ref a), some (.int f), none, none] (put S a c1) := fun f c1 f0 f1 d1 => hp.go _ _ (by
      clear hp
      walk_at "vc"
      refine ⟨by omega, by omega, loop_inv _ (fun i ρ S' => ∃ (n : Int) (v : Option Tr) (c2 : Tr), ρ = [some (.ref a), some (.int f), some (.int n), v] ∧ S' = put S a c2 ∧ 0 ≤ n ∧ n < 10 ^ i ∧ Drw c c2) ?_ ?_ ⟨0, none, c1, rfl, rfl, by omega, by decide, d1⟩⟩
      · rintro i x ρ S' N hx ⟨n, v, c2, rfl, rfl, n0, n1, d2⟩ hN
        walk_at "vc"
        refine draw_ok put_same d2.ok (by decide) (by decide) fun r c3 r0 r1 d3 => ?_
        walk_at "vc"
        refine hN _ _ ⟨_, _, c3, rfl, rfl, by omega, ?_, d2.trans d3⟩
        rw [Int.pow_succ]
        omega
      · rintro ρ S' ⟨n, v, c2, rfl, rfl, n0, n1, d2⟩
        rw [rngT_len] at n1
        have hp : (10 : Int) ^ f.toNat ≤ 10 ^ 30 := pow10 (by omega)
        walk_at "vc"
        refine draw_ok put_same d2.ok (by decide) (by decide) fun r c3 r0 r1 d3 => ?_
        walk_at "vc"
        split
        · exact hq _ _ ⟨_, rfl, by omega⟩ (d2.trans d3)
        · exact hq _ _ ⟨_, rfl, by omega⟩ (d2.trans d3))
    refine draw_ok put_same d1.ok (by decide) (by decide) fun r2 c2 r20 r21 d2 => ?_
    walk_at "vc"
    split
    · refine draw_ok put_same d2.ok (by decide) (by decide) fun r3 c3 r30 r31 d3 => ?_
      walk_at "vc"
      exact key _ _ (by omega) (by omega) ((d1.trans d2).trans d3)
    · exact key _ _ (by omega) (by omega) (d1.trans d2)

/-! ### _law_sign -/
abbrev N__law_sign : List Str := ["_law_source_here", "_law_signs"]
theorem sc__law_sign : FnScope N__law_sign ["_law_source_here"] (defScope s__law_sign) := ⟨rfl, rfl, rfl, by decide +kernel, rfl, by decide +kernel, by decide +kernel⟩
theorem ok__law_sign (T : Top K mg A) {k : Nat} (C__law_draw : CalleeT P w K mg base k "_law_draw" ["_law_source_here", "_law_many"] (sp_draw))  : CalleeT P w K mg base (k + 1) "_law_sign" ["_law_source_here"] (sp_some IsSign) := by
  have nd := sc__law_sign.nd
  refine Def.okT T.d__law_sign sc__law_sign (fun _ _ _ _ _ _ us hl => match us, hl with | [_], _ => rfl) (fun xs S Q X h => ?_) ?_ (fun f cdv AA outer s H E hr tk po => have hu := hu_of hr; (ss_cons (s_set (i := 1) nd rfl (Or.inl rfl) e_str)
      (ss_cons (s_set (i := 1) nd rfl (Or.inl rfl) (e_op ad_op o_add (e_var 1) e_str))
      (ss_one (s_ret (e_ix (ix_op hr) o_ix (e_var 1) (e_call C__law_draw (hr.mono (by omega)) (by rfl) tk (a_cons (e_var 0) (a_cons e_int a_nil))) (fun _ _ => rfl))))))) ?_
  · obtain ⟨a, c, rfl, hS, hc, hq⟩ := h
    rfl
  · walk_at "mono"
  · intro xs S Q X cQ cX h
    obtain ⟨a, c, rfl, hS, hc, hq⟩ := h
    simp only [KQ.startT, List.map_cons, List.map_nil, List.length_cons, List.length_nil, Nat.reduceAdd, Nat.reduceSub, List.replicate_succ, List.replicate_zero, List.cons_append, List.nil_append]
    walk_at "vc"
    refine ⟨by decide +kernel, draw_ok hS hc (by decide) (by decide) fun r c1 r0 r1 d1 => ?_⟩
    walk_at "vc"
    refine ⟨by decide +kernel, ?_⟩
    exact lit_ex (n := 94) (by decide +kernel) (by decide +kernel) r0 r1 fun c h1 h2 => hq _ _ ⟨c, rfl, h1, h2⟩ d1

/-! ### _law_text -/
abbrev N__law_text : List Str := ["_law_source_here", "_law_size", "_law_k"]
theorem sc__law_text : FnScope N__law_text ["_law_source_here"] (defScope s__law_text) := ⟨rfl, rfl, rfl, by decide +kernel, rfl, by decide +kernel, by decide +kernel⟩
theorem ok__law_text (T : Top K mg A) {k : Nat} (C__law_draw : CalleeT P w K mg base k "_law_draw" ["_law_source_here", "_law_many"] (sp_draw)) (C__law_sign : CalleeT P w K mg base k "_law_sign" ["_law_source_here"] (sp_some IsSign))  : CalleeT P w K mg base (k + 1) "_law_text" ["_law_source_here"] (sp_some (IsTxt 300)) := by
  have nd := sc__law_text.nd
  refine Def.okT T.d__law_text sc__law_text (fun _ _ _ _ _ _ us hl => match us, hl with | [_], _ => rfl) (fun xs S Q X h => ?_) ?_ (fun f cdv AA outer s H E hr tk po => have hu := hu_of hr; (ss_cons (s_set (i := 1) nd rfl (Or.inl rfl) (e_call C__law_draw (hr.mono (by omega)) (by rfl) tk (a_cons (e_var 0) (a_cons e_int a_nil))))
      (ss_cut (s_if (TPW.pt (w_and (t_cmp op_gt o_gt (e_ix (ix_op hr) o_ix (e_var 0) e_str (fun _ _ => rfl)) e_int (nomark _)) (w_and1 (t_cmp (eq_op hr) o_eq (e_call C__law_draw (hr.mono (by omega)) (by rfl) tk (a_cons (e_var 0) (a_cons e_int a_nil))) e_int (nomark _))))) (ss_cons (s_dput hu (e_var 0) e_str (e_op op_sub o_sub (e_ix (ix_op hr) o_ix (e_var 0) e_str (fun _ _ => rfl)) e_int) rfl)
      (ss_one (s_set (i := 1) nd rfl (Or.inl rfl) (e_call C__law_draw (hr.mono (by omega)) (by rfl) tk (a_cons (e_var 0) (a_cons e_int a_nil)))))) ss_nil)
      (ss_one (s_ret (e_mt PySem.F.plainAttrs_str PySem.F.slot_str_join PySem.F.type_str_join mt_join m_join e_str (a_cons (e_lc (own := [("_law_k", 2)]) (.nm 2) rfl nd (i_rng1 (by rfl) T.b.b_range (a_cons (e_var 1) a_nil)) (blkOk_by (own := [("_law_k", 2)]) (N := N__law_text) (sc := defScope s__law_text) (by decide +kernel)) (by decide) (fun _ _ _ _ _ => (pg_name (i := 2) nd rfl (Or.inl rfl) (hf := Or.inr rfl))) (fun _ _ _ _ _ => ts_nil) (fun _ _ _ _ _ => (e_call C__law_sign (hr.mono (by omega)) (by rfl) takes0 (a_cons (e_var 0) a_nil)))) a_nil) (fun ho ha => pe_bm PySem.F.plainAttrs_str PySem.F.slot_str_join PySem.F.type_str_join mt_join ho ha))))))) ?_
  · obtain ⟨a, c, rfl, hS, hc, hq⟩ := h
    rfl
  · walk_at "mono"
  · intro xs S Q X cQ cX h
    obtain ⟨a, c, rfl, hS, hc, hq⟩ := h
    simp only [KQ.startT, List.map_cons, List.map_nil, List.length_cons, List.length_nil, Nat.reduceAdd, Nat.reduceSub, List.replicate_succ, List.replicate_zero, List.cons_append, List.nil_append]
    walk_at "vc"
    refine draw_ok hS hc (by decide) (by decide) fun r c1 r0 r1 d1 => ?_
    walk_at "vc"
    intro p hp
    have key : ∀ (r : Int) (c1 : Tr), 0 ≤ r → r ≤ 300 → Drw c c1 → p [some (.ref a), some (.int r), none] (put S a c1) := fun r c1 r0 r1 d1 => hp.go _ _ (by
      clear hp
      walk_at "vc"
      refine ⟨by omega, by omega, lc_inv _ (fun i acc S' => ∃ (zs : List Str) (c2 : Tr), acc = zs.map Tr.str ∧ zs.length = i ∧ (∀ z ∈ zs, Pr z ∧ z.length = 1) ∧ S' = put S a c2 ∧ Drw c c2) ?_ ?_ ⟨[], c1, rfl, rfl, fun _ h => (nomatch h), rfl, d1⟩⟩
      · rintro i x acc S' N hx ⟨zs, c2, rfl, lz, hz, rfl, d2⟩ hN
        have hi := (rng_at hx).2
        walk_at "vc"
        refine some_ok put_same d2.ok fun y c3 ⟨e, ey, c0, c1⟩ d3 => ?_
        subst ey
        walk_at "vc"
        refine ⟨szn (by omega), hN _ _ ⟨zs ++ [⟨#[e]⟩], c3, by rw [List.map_append]; rfl, by rw [List.length_append, lz]; rfl, fun z h => ?_, rfl, d2.trans d3⟩⟩
        rcases List.mem_append.mp h with h | h
        · exact hz z h
        · rw [List.mem_singleton.mp h]
          exact ⟨pr_one ⟨c0, c1⟩, rfl⟩
      · rintro acc S' ⟨zs, c2, rfl, lz, hz, rfl, d2⟩
        rw [rngT_len] at lz
        walk_at "vc"
        have lo := len_ones fun z h => (hz z h).2
        refine ⟨zs, rfl, ?_, hq _ _ ⟨_, rfl, join_pr fun z h => (hz z h).1, ?_⟩ d2⟩
        · rw [lo, lz]
          show r.toNat + r.toNat * 0 ≤ 16777216
          omega
        · rw [join_len, lo]
          omega)
    obtain ⟨ns, at_, rest, seed, room, long, rfl, h0, h1⟩ := id d1.ok
    walk_at "vc"
    split
    · refine draw_ok put_same d1.ok (by decide) (by decide) fun r2 c2 r20 r21 d2 => ?_
      obtain ⟨ns, at_, rest, seed, room, long, rfl, h0, h1⟩ := id d2.ok
      walk_at "vc"
      split
      · refine draw_ok put_same (src_ok h0 h1) (by decide) (by decide) fun r4 c4 r40 r41 d4 => ?_
        walk_at "vc"
        exact key _ _ r40 (by omega) (d1.trans (d2.trans ⟨d4.ok, d4.rm⟩))
      · exact key _ _ r0 (by omega) (d1.trans d2)
    · exact key _ _ r0 (by omega) d1

/-! ### _law_leaf -/
abbrev N__law_leaf : List Str := ["_law_source_here", "_law_shape", "_law_edge"]
theorem sc__law_leaf : FnScope N__law_leaf ["_law_source_here"] (defScope s__law_leaf) := ⟨rfl, rfl, rfl, by decide +kernel, rfl, by decide +kernel, by decide +kernel⟩
theorem ok__law_leaf (T : Top K mg A) {k : Nat} (C__law_draw : CalleeT P w K mg base k "_law_draw" ["_law_source_here", "_law_many"] (sp_draw)) (C__law_number : CalleeT P w K mg base k "_law_number" ["_law_source_here"] (sp_some IsNum)) (C__law_text : CalleeT P w K mg base k "_law_text" ["_law_source_here"] (sp_some (IsTxt 300)))  : CalleeT P w K mg base (k + 1) "_law_leaf" ["_law_source_here"] (sp_some IsLeaf) := by
  have nd := sc__law_leaf.nd
  refine Def.okT T.d__law_leaf sc__law_leaf (fun _ _ _ _ _ _ us hl => match us, hl with | [_], _ => rfl) (fun xs S Q X h => ?_) ?_ (fun f cdv AA outer s H E hr tk po => have hu := hu_of hr; (ss_cons (s_set (i := 1) nd rfl (Or.inl rfl) (e_call C__law_draw (hr.mono (by omega)) (by rfl) tk (a_cons (e_var 0) (a_cons e_int a_nil))))
      (ss_cons (s_if (t_cmp op_lt o_lt (e_var 1) e_int (nomark _)) (ss_one (s_ret e_non)) ss_nil)
      (ss_cons (s_if (t_cmp (eq_op hr) o_eq (e_var 1) e_int (nomark _)) (ss_one (s_ret (e_cmp (eq_op hr) o_eq (e_call C__law_draw (hr.mono (by omega)) (by rfl) tk (a_cons (e_var 0) (a_cons e_int a_nil))) e_int (nomark _)))) ss_nil)
      (ss_cons (s_if (t_cmp op_lt o_lt (e_var 1) e_int (nomark _)) (ss_one (s_ret (e_call C__law_number (hr.mono (by omega)) (by rfl) tk (a_cons (e_var 0) a_nil)))) ss_nil)
      (ss_cons (s_if (t_cmp (eq_op hr) o_eq (e_var 1) e_int (nomark _)) (ss_cons (s_set (i := 2) nd rfl (Or.inl rfl) (e_ix (ix_op hr) o_ix (e_lst (a_cons e_int (a_cons e_int (a_cons (e_op op_sub o_sub (e_op op_pow o_pow e_int e_int) e_int) (a_cons (e_op op_pow o_pow e_int e_int) (a_cons (e_op op_pow o_pow e_int e_int) (a_cons (e_op op_sub o_sub (e_op op_pow o_pow e_int e_int) e_int) a_nil))))))) (e_call C__law_draw (hr.mono (by omega)) (by rfl) tk (a_cons (e_var 0) (a_cons e_int a_nil))) (fun _ _ => rfl)))
      (ss_one (s_ret (e_op op_sub o_sub (e_var 2) (e_op ml2_op o_mul2 (e_op ml2_op o_mul2 e_int (e_var 2)) (e_call C__law_draw (hr.mono (by omega)) (by rfl) tk (a_cons (e_var 0) (a_cons e_int a_nil)))))))) ss_nil)
      (ss_one (s_ret (e_call C__law_text (hr.mono (by omega)) (by rfl) tk (a_cons (e_var 0) a_nil)))))))))) ?_
  · obtain ⟨a, c, rfl, hS, hc, hq⟩ := h
    rfl
  · walk_at "mono"
  · intro xs S Q X cQ cX h
    obtain ⟨a, c, rfl, hS, hc, hq⟩ := h
    simp only [KQ.startT, List.map_cons, List.map_nil, List.length_cons, List.length_nil, Nat.reduceAdd, Nat.reduceSub, List.replicate_succ, List.replicate_zero, List.cons_append, List.nil_append]
    walk_at "vc"
    refine draw_ok hS hc (by decide) (by decide) fun r c1 r0 r1 d1 => ?_
    walk_at "vc"
    split
    · exact hq _ _ ⟨.non, rfl, trivial, trivial⟩ d1
    split
    · refine draw_ok put_same d1.ok (by decide) (by decide) fun r2 c2 r20 r21 d2 => ?_
      walk_at "vc"
      exact hq _ _ ⟨.bl _, rfl, trivial, trivial⟩ (d1.trans d2)
    split
    · exact some_ok put_same d1.ok fun y c2 h2 d2 => by walk_at "vc"; exact hq _ _ h2.leaf (d1.trans d2)
    split
    · refine draw_ok put_same d1.ok (by decide) (by decide) fun r2 c2 r20 r21 d2 => ?_
      walk_at "vc"
      refine menu_ex (n := 6) rfl r20 r21 fun v hv => ?_
      have hn : ∃ n : Int, v = .int n ∧ 0 ≤ n ∧ n < 10 ^ 30 := by
        simp only [List.mem_cons, List.not_mem_nil, or_false] at hv
        rcases hv with rfl | rfl | rfl | rfl | rfl | rfl <;> exact ⟨_, rfl, by decide, by decide⟩
      obtain ⟨n, rfl, n0, n1⟩ := hn
      walk_at "vc"
      refine draw_ok put_same d2.ok (by decide) (by decide) fun r3 c3 r30 r31 d3 => ?_
      walk_at "vc"
      have hr : r3 = 0 ∨ r3 = 1 := by omega
      refine ⟨?_, hq _ _ ⟨.int (n - 2 * n * r3), rfl, trivial, ?_⟩ ((d1.trans d2).trans d3)⟩
      · exact .inl (.inr ⟨by omega, by omega⟩)
      · show (n - 2 * n * r3).natAbs < 10 ^ 30
        rcases hr with rfl | rfl <;> omega
    · exact some_ok put_same d1.ok fun y c2 h2 d2 => by walk_at "vc"; exact hq _ _ h2.leaf (d1.trans d2)

/-! ### _law_near_long -/
abbrev N__law_near_long : List Str := ["_law_source_here", "_law_number_here"]
theorem sc__law_near_long : FnScope N__law_near_long ["_law_source_here"] (defScope s__law_near_long) := ⟨rfl, rfl, rfl, by decide +kernel, rfl, by decide +kernel, by decide +kernel⟩
theorem ok__law_near_long (T : Top K mg A) {k : Nat} (C__law_draw : CalleeT P w K mg base k "_law_draw" ["_law_source_here", "_law_many"] (sp_draw)) (C__law_leaf : CalleeT P w K mg base k "_law_leaf" ["_law_source_here"] (sp_some IsLeaf))  : CalleeT P w K mg base (k + 1) "_law_near_long" ["_law_source_here"] (sp_some IsLeaf) := by
  have nd := sc__law_near_long.nd
  refine Def.okT T.d__law_near_long sc__law_near_long (fun _ _ _ _ _ _ us hl => match us, hl with | [_], _ => rfl) (fun xs S Q X h => ?_) ?_ (fun f cdv AA outer s H E hr tk po => have hu := hu_of hr; (ss_cons (s_if (t_cmp (eq_op hr) o_eq (e_call C__law_draw (hr.mono (by omega)) (by rfl) tk (a_cons (e_var 0) (a_cons e_int a_nil))) e_int (nomark _)) (ss_one (s_ret (e_call C__law_leaf (hr.mono (by omega)) (by rfl) tk (a_cons (e_var 0) a_nil)))) ss_nil)
      (ss_cons (s_set (i := 1) nd rfl (Or.inl rfl) (e_op op_sub o_sub (e_ix (ix_op hr) o_ix (e_lst (a_cons (e_op op_pow o_pow e_int e_int) (a_cons (e_op op_pow o_pow e_int e_int) (a_cons (e_op op_pow o_pow e_int e_int) (a_cons (e_op op_pow o_pow e_int e_int) a_nil))))) (e_call C__law_draw (hr.mono (by omega)) (by rfl) tk (a_cons (e_var 0) (a_cons e_int a_nil))) (fun _ _ => rfl)) (e_call C__law_draw (hr.mono (by omega)) (by rfl) tk (a_cons (e_var 0) (a_cons e_int a_nil)))))
      (ss_one (s_ret (e_op op_sub o_sub (e_var 1) (e_op ml2_op o_mul2 (e_op ml2_op o_mul2 e_int (e_var 1)) (e_call C__law_draw (hr.mono (by omega)) (by rfl) tk (a_cons (e_var 0) (a_cons e_int a_nil)))))))))) ?_
  · obtain ⟨a, c, rfl, hS, hc, hq⟩ := h
    rfl
  · walk_at "mono"
  · intro xs S Q X cQ cX h
    obtain ⟨a, c, rfl, hS, hc, hq⟩ := h
    simp only [KQ.startT, List.map_cons, List.map_nil, List.length_cons, List.length_nil, Nat.reduceAdd, Nat.reduceSub, List.replicate_succ, List.replicate_zero, List.cons_append, List.nil_append]
    replace hq := Hide.mk hq
    walk_at "vn"
    refine draw_ok hS hc (by decide) (by decide) fun r c1 r0 r1 d1 => ?_
    walk_at "vn"
    by_cases h0 : r = 0
    · rw [if_pos h0]
      refine some_ok put_same d1.ok fun y c2 hy d2 => ?_
      rw [put_put]
      exact hq.go _ _ hy (d1.trans d2)
    · rw [if_neg h0]
      refine draw_ok put_same d1.ok (by decide) (by decide) fun r2 c2 r20 r21 d2 => ?_
      rw [put_put]
      have n4 : ∃ n, atI [Tr.int (10 ^ Int.toNat 13), Tr.int (10 ^ Int.toNat 14), Tr.int (10 ^ Int.toNat 15), Tr.int (10 ^ Int.toNat 16)] r2 = some (.int n) ∧ 0 ≤ n ∧ n ≤ 10 ^ 16 := by
        refine (menu_ex (xs := [Tr.int (10 ^ Int.toNat 13), Tr.int (10 ^ Int.toNat 14), Tr.int (10 ^ Int.toNat 15), Tr.int (10 ^ Int.toNat 16)]) (r := r2) (R := fun x => ∃ n, x = Tr.int n ∧ 0 ≤ n ∧ n ≤ 10 ^ 16) (n := 4) rfl r20 r21 fun v hv => ?_).elim fun x hx => ?_
        · simp only [List.mem_cons, List.not_mem_nil, or_false] at hv
          rcases hv with rfl | rfl | rfl | rfl <;> exact ⟨_, rfl, by decide, by decide⟩
        · obtain ⟨h1, n, rfl, h2, h3⟩ := hx
          exact ⟨n, h1, h2, h3⟩
      obtain ⟨n, e4, n0, n1⟩ := n4
      obtain ⟨B, hB⟩ : ∃ B : Int, B = 10 ^ 16 := ⟨_, rfl⟩
      rw [← hB] at n1
      generalize [Tr.int (10 ^ Int.toNat 13), Tr.int (10 ^ Int.toNat 14), Tr.int (10 ^ Int.toNat 15), Tr.int (10 ^ Int.toNat 16)] = L4 at e4 ⊢
      replace hB := Hide.mk hB
      walk_at "vn"
      refine draw_ok put_same d2.ok (by decide) (by decide) fun r3 c3 r30 r31 d3 => ?_
      rw [put_put]
      have b1 : ∀ x : Int, -10 ≤ x → x ≤ B → -4611686018427387904 ≤ x ∧ x < 4611686018427387904 := fun x h1 h2 => by rw [hB.go] at h2; omega
      walk_at "vn"
      refine draw_ok put_same d3.ok (by decide) (by decide) fun r4 c4 r40 r41 d4 => ?_
      rw [put_put]
      have hr : r4 = 0 ∨ r4 = 1 := by omega
      walk_at "vn"
      refine ⟨?_, hq.go _ _ ⟨.int ((n - r3) - 2 * (n - r3) * r4), rfl, trivial, ?_⟩ (((d1.trans d2).trans d3).trans d4)⟩
      · exact .inl (.inr ⟨by omega, by omega⟩)
      · show ((n - r3) - 2 * (n - r3) * r4).natAbs < 10 ^ 30
        have : n ≤ 10 ^ 16 := by rw [← hB.go]; exact n1
        rcases hr with rfl | rfl <;> omega

/-! ### _law_rows -/
abbrev N__law_rows : List Str := ["_law_source_here", "_law_depth", "_law_items", "_law_k"]
theorem sc__law_rows : FnScope N__law_rows ["_law_source_here", "_law_depth"] (defScope s__law_rows) := ⟨rfl, rfl, rfl, by decide +kernel, rfl, by decide +kernel, by decide +kernel⟩
def bndR : Nat → Nat
  | 0 => 1
  | n + 1 => 1 + 12 * bndR n
def sp_lrows (n : Nat) : TSp := fun xs S Q X => ∃ (a : Addr) (c : Tr) (d : Int), xs = [.ref a, .int d] ∧ S a = some c ∧ SrcOk c ∧ 0 ≤ d ∧ d ≤ 2 ∧ 3 ≤ d + n ∧ ∀ (v : Val) (c' : Tr), VOk v → noTab v → vdepth v ≤ n → vparts v ≤ bndR n → SrcOk c' → Q (mT v) (put S a c')
theorem step__law_rows (T : Top K mg A) {k n : Nat} (C__law_draw : CalleeT P w K mg base k "_law_draw" ["_law_source_here", "_law_many"] (sp_draw)) (C__law_near_long : CalleeT P w K mg base k "_law_near_long" ["_law_source_here"] (sp_some IsLeaf)) (C__law_rows : CalleeT P w K mg base k "_law_rows" ["_law_source_here", "_law_depth"] (sp_lrows n)) : CalleeT P w K mg base (k + 1) "_law_rows" ["_law_source_here", "_law_depth"] (sp_lrows (n + 1)) := by
  have nd := sc__law_rows.nd
  refine Def.okT T.d__law_rows sc__law_rows (fun _ _ _ _ _ _ us hl => match us, hl with | [_, _], _ => rfl) (fun xs S Q X h => ?_) ?_ (fun f cdv AA outer s H E hr tk po => have hu := hu_of hr; (ss_cons (s_set (i := 2) nd rfl (Or.inl rfl) (e_lstC a_nil))
      (ss_cons (s_for (.nm 3) po rfl (i_rng1 (by rfl) T.b.b_range (a_cons (e_call C__law_draw (hr.mono (by omega)) (by rfl) tk (a_cons (e_var 0) (a_cons (e_ix (ix_op hr) o_ix (e_lst (a_cons e_int (a_cons e_int (a_cons e_int a_nil)))) (e_var 1) (fun _ _ => rfl)) a_nil))) a_nil)) (pg_name (i := 3) nd rfl (Or.inl rfl)) (ss_one (s_if (TPW.pt (w_and (t_cmp op_lt o_lt (e_var 1) e_int (nomark _)) (w_and1 (t_cmp (eq_op hr) o_eq (e_call C__law_draw (hr.mono (by omega)) (by rfl) tk (a_cons (e_var 0) (a_cons e_int a_nil))) e_int (nomark _))))) (ss_one (s_expr (e_mm m_append (e_var 2) (a_cons (e_call C__law_rows (hr.mono (by omega)) (by rfl) tk (a_cons (e_var 0) (a_cons (e_op ad_op o_add (e_var 1) e_int) a_nil))) a_nil) (fun ho ha => pe_bm PySem.F.plainAttrs_list PySem.F.slot_list_append PySem.F.type_list_append mt_append ho ha)))) (ss_one (s_expr (e_mm m_append (e_var 2) (a_cons (e_call C__law_near_long (hr.mono (by omega)) (by rfl) tk (a_cons (e_var 0) a_nil)) a_nil) (fun ho ha => pe_bm PySem.F.plainAttrs_list PySem.F.slot_list_append PySem.F.type_list_append mt_append ho ha)))))))
      (ss_frz (i := 2) (ss_one (s_ret (e_tup (a_cons (e_ix (ix_op hr) o_ix (e_lst (a_cons e_str (a_cons e_str a_nil))) (e_call C__law_draw (hr.mono (by omega)) (by rfl) tk (a_cons (e_var 0) (a_cons e_int a_nil))) (fun _ _ => rfl)) (a_cons (e_var 2) a_nil))))))))) ?_
  · obtain ⟨a, c, d, rfl, hS, hc, hd0, hd1, hn, hq⟩ := h
    rfl
  · walk_at "mono"
  · intro xs S Q X cQ cX h
    obtain ⟨a, c, d, rfl, hS, hc, hd0, hd1, hn, hq⟩ := h
    simp only [KQ.startT, List.map_cons, List.map_nil, List.length_cons, List.length_nil, Nat.reduceAdd, Nat.reduceSub, List.replicate_succ, List.replicate_zero, List.cons_append, List.nil_append]
    replace hq := Hide.mk hq
    walk_at "vn"
    intro p hp
    have npa : p ≠ a := ne_cell hS hp
    have A1 : ∀ c x, put (put S a c) p x a = some c := fun c x => by rw [put_ne npa.symm]; exact put_same
    have B1 : ∀ c x d, put (put (put S a c) p x) a d = put (put S a d) p x := fun c x d => put3 npa _ _ _
    have E0 : ∀ x, put S p x = put (put S a c) p x := fun x => by rw [put_id hS]
    rw [E0]
    have ez : ∃ z, atI [Tr.int 13, Tr.int 4, Tr.int 3] d = some (.int z) ∧ 1 ≤ z ∧ z ≤ 13 := by
      refine (menu_ex (xs := [Tr.int 13, Tr.int 4, Tr.int 3]) (r := d) (R := fun x => ∃ z, x = Tr.int z ∧ 1 ≤ z ∧ z ≤ 13) (n := 3) rfl hd0 (by omega) fun v hv => ?_).elim fun x hx => ?_
      · simp only [List.mem_cons, List.not_mem_nil, or_false] at hv
        rcases hv with rfl | rfl | rfl <;> exact ⟨_, rfl, by decide, by decide⟩
      · obtain ⟨h1, z, rfl, h2⟩ := hx
        exact ⟨z, h1, h2⟩
    obtain ⟨z, ez, z0, z1⟩ := ez
    refine ⟨_, ez, ?_⟩
    refine draw_ok (A1 _ _) hc (by omega) (by omega) fun t c1 t0 t1 d1 => ?_
    rw [B1]
    obtain ⟨t, rfl⟩ : ∃ t' : Nat, t = (t' : Int) := ⟨t.toNat, by omega⟩
    walk_at "vn"
    refine ⟨by omega, by omega, ?_⟩
    refine loop_inv _ (fun i ρ S2 => ∃ (vs : List Val) (c2 : Tr) (x3 : Option Tr), ρ = [some (.ref a), some (.int d), some (.ref p), x3] ∧ S2 = put (put S a c2) p (.lst (mTL vs)) ∧ SrcOk c2 ∧ VOkL vs ∧ noTabL vs ∧ vdepthL vs ≤ n ∧ vpartsL vs ≤ i * bndR n ∧ vs.length = i) ?_ ?_ ⟨[], c1, _, rfl, rfl, d1.ok, trivial, trivial, Nat.zero_le _, Nat.zero_le _, rfl⟩
    · rintro i x ρ S2 N hx ⟨vs, c2, x3, rfl, rfl, d2, ov, nt, dv, pv, lv⟩ hN
      obtain ⟨rfl, hi⟩ := rng_at hx
      clear hx
      have hi : i < t := hi
      have ll : (mTL vs).length < sizeLine := szn (by rw [mTL_len]; omega)
      have fin : ∀ (v : Val) (c3 : Tr), VOk v → noTab v → vdepth v ≤ n → vparts v ≤ bndR n → SrcOk c3 → N [some (.ref a), some (.int d), some (.ref p), some (.int i)] (put (put S a c3) p (.lst (mTL vs ++ [mT v]))) := fun v c3 h1 h2 h3 h4 h5 => hN _ _ ⟨vs ++ [v], c3, _, rfl, by rw [mTL_snoc], h5, ov.snoc h1, noTabL_snoc nt h2, by rw [vdL_snoc]; omega, by rw [vpL_snoc, Nat.add_mul]; omega, by rw [List.length_append, lv]; rfl⟩
      clear hN
      replace fin := Hide.mk fin
      have bp : 1 ≤ bndR n := by cases n with | zero => exact Nat.le_refl _ | succ k => exact Nat.le_add_right 1 _
      have Ap : ∀ c x, put (put S a c) p x p = some x := fun c x => put_same
      walk_at "vn"
      by_cases h2 : d < 2
      · rw [if_pos h2]
        refine draw_ok (A1 _ _) d2 (by decide) (by decide) fun r c3 r0 r1 d3 => ?_
        rw [B1]
        walk_at "vn"
        by_cases h0 : r = 0
        · rw [if_pos h0]
          refine ⟨a, c3, d + 1, rfl, A1 _ _, d3.ok, by omega, by omega, by omega, fun v c4 o1 o2 o3 o4 o5 => ?_⟩
          rw [B1]
          refine ⟨_, Ap _ _, ll, ?_⟩
          rw [put_put]
          exact fin.go v c4 o1 o2 o3 o4 o5
        · rw [if_neg h0]
          refine some_ok (A1 _ _) d3.ok fun y c4 hy d4 => ?_
          obtain ⟨v, rfl, lv2, ov2⟩ := hy
          rw [B1]
          refine ⟨_, Ap _ _, ll, ?_⟩
          rw [put_put]
          exact fin.go v c4 ov2 (noTab_leaf lv2) (by rw [(leaf_nd lv2).1]; omega) (by rw [(leaf_nd lv2).2]; exact bp) d4.ok
      · rw [if_neg h2]
        refine some_ok (A1 _ _) d2 fun y c4 hy d4 => ?_
        obtain ⟨v, rfl, lv2, ov2⟩ := hy
        rw [B1]
        refine ⟨_, Ap _ _, ll, ?_⟩
        rw [put_put]
        exact fin.go v c4 ov2 (noTab_leaf lv2) (by rw [(leaf_nd lv2).1]; omega) (by rw [(leaf_nd lv2).2]; exact bp) d4.ok
    · rintro ρ S2 ⟨vs, c2, x3, rfl, rfl, d2, ov, nt, dv, pv, lv⟩
      rw [rngT_len] at lv pv
      have bb : vpartsL vs ≤ 12 * bndR n := Nat.le_trans pv (Nat.mul_le_mul_right _ (by omega))
      walk_at "vn"
      have np : ∀ c, put S a c p = none := fun c => by rw [put_ne npa]; exact hp
      refine ⟨_, _, Frz.one put_same (sub_new (np _)) (np _), ?_⟩
      refine draw_ok put_same d2 (by decide) (by decide) fun r c3 r0 r1 d3 => ?_
      rw [put_put]
      have h1 := hq.go (.lst vs) c3 ov nt (by show 1 + vdepthL vs ≤ n + 1; omega) (by show 1 + vpartsL vs ≤ 1 + 12 * bndR n; omega) d3.ok
      have h2 := hq.go (.tup vs) c3 ov nt (by show 1 + vdepthL vs ≤ n + 1; omega) (by show 1 + vpartsL vs ≤ 1 + 12 * bndR n; omega) d3.ok
      simp only [mT] at h1 h2
      replace h1 := Hide.mk h1
      replace h2 := Hide.mk h2
      walk_at "vn"
      have hr : r = 0 ∨ r = 1 := by omega
      rcases hr with rfl | rfl
      · exact ⟨_, atI_nat (j := 0) rfl, h1.go⟩
      · exact ⟨_, atI_nat (j := 1) rfl, h2.go⟩
theorem ok__law_rows (T : Top K mg A) {k : Nat} (C__law_draw : CalleeT P w K mg base k "_law_draw" ["_law_source_here", "_law_many"] (sp_draw)) (C__law_near_long : CalleeT P w K mg base k "_law_near_long" ["_law_source_here"] (sp_some IsLeaf)) : ∀ n, CalleeT P w K mg base (k + 1 * n) "_law_rows" ["_law_source_here", "_law_depth"] (sp_lrows n)
  | 0 => Def.botT (N := N__law_rows) T.d__law_rows (fun _ _ _ _ _ _ us hl => match us, hl with | [_, _], _ => rfl) (fun xs S Q X h => by
      obtain ⟨_, _, _, _, _, _, h0, h1, h2, _⟩ := h
      omega)
  | n + 1 => by
    have C__law_rows_0 := ok__law_rows (k := k) T C__law_draw C__law_near_long n
    exact (step__law_rows T (k := k + 1 * n + 0) (C__law_draw.lift (by omega)) (C__law_near_long.lift (by omega)) (C__law_rows_0.lift (by omega))).lift (by omega)

/-! ### _law_source -/
abbrev N__law_source : List Str := ["_law_script", "_law_cell"]
theorem sc__law_source : FnScope N__law_source ["_law_script"] (defScope s__law_source) := ⟨rfl, rfl, rfl, by decide +kernel, rfl, by decide +kernel, by decide +kernel⟩
def sp_source : TSp := fun xs S Q X => ∃ ns : List Int, xs = [.scr ns] ∧ ns.length ≤ 63 ∧ ∀ (p : Addr) (c : Tr), S p = none → SrcOk c → Q (.ref p) (put S p c)
theorem ok__law_source (T : Top K mg A) {k : Nat}   : CalleeT P w K mg base (k + 1) "_law_source" ["_law_script"] (sp_source) := by
  have nd := sc__law_source.nd
  refine Def.okT T.d__law_source sc__law_source (fun _ _ _ _ _ _ us hl => match us, hl with | [_], _ => rfl) (fun xs S Q X h => ?_) ?_ (fun f cdv AA outer s H E hr tk po => have hu := hu_of hr; (ss_one (s_ret (e_disp (pp_cons e_str (e_lc (own := [("_law_cell", 1)]) (.nm 1) rfl nd (i_seq (e_var 0)) (blkOk_by (own := [("_law_cell", 1)]) (N := N__law_source) (sc := defScope s__law_source) (by decide +kernel)) (by decide) (fun _ _ _ _ _ => (pg_name (i := 1) nd rfl (Or.inl rfl) (hf := Or.inr rfl))) (fun _ _ _ _ _ => ts_nil) (fun _ _ _ _ _ => (e_callTy KB.int_any c_int (by rfl) T.b.b_int boot_int (a_cons (e_var 1) a_nil)))) (pp_cons e_str e_int (pp_cons e_str e_int (pp_cons e_str e_int (pp_cons e_str e_int (pp_cons e_str e_int pp_nil (fun a b r => pps_cons a b r)) (fun a b r => pps_cons a b r)) (fun a b r => pps_cons a b r)) (fun a b r => pps_cons a b r)) (fun a b r => pps_cons a b r)) (fun a b r => pps_cons a b r)) (fun h => pe_disp h (by rfl) (by rfl) (fun z => by cases z) (by decide)))))) ?_
  · obtain ⟨ns, rfl, hl, hq⟩ := h
    rfl
  · walk_at "mono"
  · intro xs S Q X cQ cX h
    obtain ⟨ns, rfl, hl, hq⟩ := h
    simp only [KQ.startT, List.map_cons, List.map_nil, List.length_cons, List.length_nil, Nat.reduceAdd, Nat.reduceSub, List.replicate_succ, List.replicate_zero, List.cons_append, List.nil_append]
    walk_at "vc"
    refine lc_inv _ (fun i acc S' => acc = (ns.map Tr.int).take i ∧ S' = S) ?_ ?_ ⟨rfl, rfl⟩
    · rintro i x acc S' N hx ⟨rfl, rfl⟩ hN
      have hi : i < ns.length := by have := (List.getElem?_eq_some_iff.mp hx).1; rwa [List.length_map] at this
      have ex : x = .int ns[i] := by rw [List.getElem?_map, List.getElem?_eq_getElem hi] at hx; exact (Option.some.inj hx).symm
      subst ex
      walk_at "vc"
      refine ⟨szn (by rw [List.length_take]; omega), hN _ _ ⟨?_, rfl⟩⟩
      rw [List.take_add_one, hx]
      rfl
    · rintro acc S' ⟨rfl, rfl⟩
      rw [List.take_of_length_le (Nat.le_refl _)]
      walk_at "vc"
      exact ⟨srcKs, rfl, sk_nd, by decide, fun p hp => hq p (srcT ns 0 0 7 0 2) hp (src_ok (by decide) (by decide))⟩

/-! ### BadOption.__init__ -/
abbrev N_BadOption___init__ : List Str := ["self", "name", "value"]
theorem sc_BadOption___init__ : FnScope N_BadOption___init__ ["self", "name", "value"] (defScope s_BadOption___init__) := ⟨rfl, rfl, rfl, by decide +kernel, rfl, by decide +kernel, by decide +kernel⟩
theorem ok_BadOption___init__ (T : Top K mg A) {k : Nat} : ExcT P w K mg base (k + 1) "BadOption" A.BadOption ["name", "value"] :=
  DefM.excT T.m_BadOption___init__ T.ox_BadOption T.c_BadOption.mg (List.forall_mem_cons.2 ⟨T.nf_BadOption_name, List.forall_mem_cons.2 ⟨T.nf_BadOption_value, fun _ h => nomatch h⟩⟩) sc_BadOption___init__ (fun _ _ _ _ _ _ us hl => match us, hl with | [_, _, _], _ => rfl) rfl (by decide) (by decide) (by decide) (fun _ _ _ _ _ h => start_at h) (fun f cdv A outer s H E => (pss_cons (ps_ost (pv 0) (pv 1)) (pss_one (ps_ost (pv 0) (pv 2)))))

/-! ### check_options -/
abbrev N_check_options : List Str := ["options", "given", "name", "allowed", "value"]
theorem sc_check_options : FnScope N_check_options ["options", "given"] (defScope s_check_options) := ⟨rfl, rfl, rfl, by decide +kernel, rfl, by decide +kernel, by decide +kernel⟩
def optsT (os : List (Str × List Str)) : Tr := .tup (os.map fun q => .tup [.str q.1, .tup (q.2.map .str)])
def badO (os : List (Str × List Str)) (gs : List Str) : Option (Str × Str) := (os.zip gs).findSome? fun q => if q.2 ∈ q.1.2 then none else some (q.1.1, q.2)
def sp_check (B : Addr) : TSp := fun xs S Q X => ∃ (os : List (Str × List Str)) (gs : List Str), xs = [optsT os, .tup (gs.map .str)] ∧ os.length = gs.length ∧ gs.length ≤ 20 ∧ (badO os gs = none → Q .non S) ∧ (∀ n z, badO os gs = some (n, z) → X (.ref B) ["name", "value"] [.str n, .str z] S)
theorem ok_check_options (T : Top K mg A) {k : Nat} (X_BadOption : ExcT P w K mg base k "BadOption" A.BadOption ["name", "value"])  : CalleeT P w K mg base (k + 1 + 1) "check_options" ["options", "given"] (sp_check A.BadOption) := by
  have nd := sc_check_options.nd
  refine Def.okT T.d_check_options sc_check_options (fun _ _ _ _ _ _ us hl => match us, hl with | [_, _], _ => rfl) (fun xs S Q X h => ?_) ?_ (fun f cdv AA outer s H E hr tk po => have hu := hu_of hr; (ss_one (s_for (.tp [(.tp [(.nm 2), (.nm 3)]), (.nm 4)]) po rfl (i_zip (by rfl) T.b.b_zip (a_cons (e_var 0) (a_cons (e_var 1) a_nil))) (pg_tup rfl (pgs_cons (pg_tup rfl (pgs_cons (pg_name (i := 2) nd rfl (Or.inl rfl)) (pgs_cons (pg_name (i := 3) nd rfl (Or.inl rfl)) pgs_nil))) (pgs_cons (pg_name (i := 4) nd rfl (Or.inl rfl)) pgs_nil))) (ss_one (s_if (t_cmp (notin_op hr) o_in (e_var 4) (e_var 3) (by with_unfolding_all rfl)) (ss_one (s_raise X_BadOption rfl (hr.mono (by omega)) (by rfl) tk (a_cons (e_var 2) (a_cons (e_var 4) a_nil)))) ss_nil))))) ?_
  · obtain ⟨os, gs, rfl, lo, lg, h1, h2⟩ := h
    rfl
  · walk_at "mono"
  · intro xs S Q X cQ cX h
    obtain ⟨os, gs, rfl, lo, lg, h1, h2⟩ := h
    simp only [KQ.startT, List.map_cons, List.map_nil, List.length_cons, List.length_nil, Nat.reduceAdd, Nat.reduceSub, List.replicate_succ, List.replicate_zero, List.cons_append, List.nil_append]
    replace h1 := Hide.mk h1
    replace h2 := Hide.mk h2
    unfold optsT
    walk_at "vn"
    refine loop_inv _ (fun i ρ S' => ∃ x2 x3 x4, ρ = [some (optsT os), some (.tup (gs.map .str)), x2, x3, x4] ∧ S' = S ∧ ∀ q ∈ (os.zip gs).take i, q.2 ∈ q.1.2) ?_ ?_ ⟨_, _, _, rfl, rfl, by simp⟩
    · rintro i x ρ S' N hx ⟨x2, x3, x4, rfl, rfl, hi⟩ hN
      obtain ⟨y, w, hy, hw, rfl⟩ := zipT_get hx
      rw [List.getElem?_map] at hy hw
      obtain ⟨⟨n, al⟩, ho, rfl⟩ := Option.map_eq_some_iff.mp hy
      obtain ⟨z, hz, rfl⟩ := Option.map_eq_some_iff.mp hw
      have hq : (os.zip gs)[i]? = some ((n, al), z) := List.getElem?_zip_eq_some.mpr ⟨ho, hz⟩
      clear hx hy hw
      have f1 := str_flats al
      have f2 := str_in z al
      replace hN := Hide.mk hN
      replace hi := Hide.mk hi
      have et : (os.zip gs).take (i + 1) = (os.zip gs).take i ++ [((n, al), z)] := by rw [List.take_add_one, hq]; rfl
      walk_at "vn"
      by_cases hz2 : z ∈ al
      · rw [if_neg (fun h => h hz2)]
        refine hN.go _ _ ⟨_, _, _, rfl, rfl, fun q hq2 => ?_⟩
        rw [et] at hq2
        rcases List.mem_append.mp hq2 with hq2 | hq2
        · exact hi.go q hq2
        · rw [List.mem_singleton.mp hq2]; exact hz2
      · rw [if_pos hz2]
        refine h2.go n z ?_
        unfold badO
        refine fs_at (i := i) (a := ((n, al), z)) hq (if_neg hz2) fun q hq2 => if_pos (hi.go q hq2)
    · rintro ρ S' ⟨x2, x3, x4, rfl, rfl, hi⟩
      rw [zipT_len, List.length_map, List.length_map, List.take_of_length_le (by rw [List.length_zip]; exact Nat.le_refl _)] at hi
      walk_at "vn"
      refine h1.go ?_
      unfold badO
      exact List.findSome?_eq_none_iff.mpr fun q hq => if_pos (hi q hq)

/-! ### Writer.__init__ -/
abbrev N_Writer___init__ : List Str := ["self", "number_keys", "tuples", "nulls", "double_keys", "order", "long_numbers"]
theorem sc_Writer___init__ : FnScope N_Writer___init__ ["self", "number_keys", "tuples", "nulls", "double_keys", "order", "long_numbers"] (defScope s_Writer___init__) := ⟨rfl, rfl, rfl, by decide +kernel, rfl, by decide +kernel, by decide +kernel⟩
def sp_wt_init (C : Addr) : TSp := fun xs S Q X => ∃ (p : Addr) (r : Wo), xs = [.ref p, .str r.keys, .str r.tups, .str r.nulls, .str r.dbl, .str r.order, .str r.longs] ∧ S p = some (.ins C [] []) ∧ WoOk r ∧
  Q .non (put S p (.ins C ["number_keys", "tuples", "nulls", "double_keys", "order", "long_numbers"] [.str r.keys, .str r.tups, .str r.nulls, .str r.dbl, .str r.order, .str r.longs]))
def sp_writer (C : Addr) : TSp := fun xs S Q X => ∃ r : Wo, xs = [.str r.keys, .str r.tups, .str r.nulls, .str r.dbl, .str r.order, .str r.longs] ∧ WoOk r ∧ Q (wtT C r) S
theorem ok_Writer___init__ (T : Top K mg A) {k : Nat} (C_check_options : CalleeT P w K mg base k "check_options" ["options", "given"] (sp_check A.BadOption)) : NewD P w K mg base (k + 1) "Writer" A.Writer "Writer.__init__" s_Writer___init__ [("number_keys", .str "text"), ("tuples", .str "list"), ("nulls", .str "keep"), ("double_keys", .str "keep"), ("order", .str "keep"), ("long_numbers", .str "keep")] ["self", "number_keys", "tuples", "nulls", "double_keys", "order", "long_numbers"] (sp_writer A.Writer) := by
  have nd := sc_Writer___init__.nd
  refine DefMK.newD T.m_Writer___init__ T.c_Writer.mak T.c_Writer.kp T.c_Writer.mg sc_Writer___init__ (fun xs S Q X h => ?_) (tI := (sp_wt_init A.Writer)) ?_ ?_ ⟨fun f cdv AA outer s H E hr tk po => have hu := hu_of hr; (ss_cons (s_expr (e_call C_check_options (hr.mono (by omega)) (by rfl) tk (a_cons (e_g_WRITER_OPTIONS T) (a_cons (e_tup (a_cons (e_var 1) (a_cons (e_var 2) (a_cons (e_var 3) (a_cons (e_var 4) (a_cons (e_var 5) (a_cons (e_var 6) a_nil))))))) a_nil))))
      (ss_cons (s_fldK (K := K) rfl (e_var 0) (e_var 1) rfl)
      (ss_cons (s_fldK (K := K) rfl (e_var 0) (e_var 2) rfl)
      (ss_cons (s_fldK (K := K) rfl (e_var 0) (e_var 3) rfl)
      (ss_cons (s_fldK (K := K) rfl (e_var 0) (e_var 4) rfl)
      (ss_cons (s_fldK (K := K) rfl (e_var 0) (e_var 5) rfl)
      (ss_one (s_fldK (K := K) rfl (e_var 0) (e_var 6) rfl))))))))⟩ ?_ ?_
  · obtain ⟨p, r, rfl, hS, ro, hq⟩ := h
    rfl
  · walk_at "mono"
  · walk_at "mono"
  · intro xs S Q X cQ cX h
    obtain ⟨p, r, rfl, hS, ro, hq⟩ := h
    have hT := And.intro T.f_Writer_number_keys <| And.intro T.f_Writer_tuples <| And.intro T.f_Writer_nulls <| And.intro T.f_Writer_double_keys <| And.intro T.f_Writer_order <| T.f_Writer_long_numbers
    simp only [KQ.startT, List.map_cons, List.map_nil, List.length_cons, List.length_nil, Nat.reduceAdd, Nat.reduceSub, List.replicate_succ, List.replicate_zero, List.cons_append, List.nil_append]
    replace hq := Hide.mk hq
    walk_at "vn"
    refine ⟨[("number_keys", ["text", "skip", "refuse"]), ("tuples", ["list", "refuse"]), ("nulls", ["keep", "skip"]), ("double_keys", ["keep", "refuse"]), ("order", ["keep", "rising"]), ("long_numbers", ["keep", "text", "refuse"])], [r.keys, r.tups, r.nulls, r.dbl, r.order, r.longs], rfl, rfl, by simp, fun _ => ?_, fun n z h => ?_⟩
    · walk_at "vn"
      exact ⟨by decide, by decide, by decide, by decide, by decide, by decide, hq.go⟩
    · obtain ⟨h1, h2, h3, h4, h5, h6⟩ := ro
      simp only [badO, List.zip_cons_cons, List.zip_nil_left, List.findSome?_cons, List.findSome?_nil] at h
      rw [if_pos h1, if_pos h2, if_pos h3, if_pos h4, if_pos h5, if_pos h6] at h
      cases h
  · rintro xs S Q X cQ cX ⟨r, rfl, ro, hq⟩ a n
    exact ⟨a, r, rfl, put_same, ro, rfl, by rw [put_put]; exact cQ.one put_same (sub_new n) n hq⟩

/-! ### _law_writer -/
abbrev N__law_writer : List Str := ["_law_o"]
theorem sc__law_writer : FnScope N__law_writer ["_law_o"] (defScope s__law_writer) := ⟨rfl, rfl, rfl, by decide +kernel, rfl, by decide +kernel, by decide +kernel⟩
theorem shp_Writer_0_number_keys_tuples_nulls_double_keys_order_long_numbers : Shp "__init__" "Writer.__init__" s_Writer___init__ [("number_keys", .str "text"), ("tuples", .str "list"), ("nulls", .str "keep"), ("double_keys", .str "keep"), ("order", .str "keep"), ("long_numbers", .str "keep")] ["self", "number_keys", "tuples", "nulls", "double_keys", "order", "long_numbers"] 1 ["number_keys", "tuples", "nulls", "double_keys", "order", "long_numbers"] [] [(0, 0), (2, 0), (2, 1), (2, 2), (2, 3), (2, 4), (2, 5)] :=
  ⟨by simp, (fun _ h => nomatch h), by rfl, fun D doc pm an cdv ct us mv ws h1 h2 h3 => match us, h1, mv, h2, ws, h3 with | [_], _, [], _, [_, _, _, _, _, _], _ => rfl⟩
def sp_lwriter (C : Addr) : TSp := fun xs S Q X => ∃ r : Wo, xs = [woT r] ∧ WoOk r ∧ Q (wtT C r) S
theorem ok__law_writer (T : Top K mg A) {k : Nat} (D_Writer : NewD P w K mg base k "Writer" A.Writer "Writer.__init__" s_Writer___init__ [("number_keys", .str "text"), ("tuples", .str "list"), ("nulls", .str "keep"), ("double_keys", .str "keep"), ("order", .str "keep"), ("long_numbers", .str "keep")] ["self", "number_keys", "tuples", "nulls", "double_keys", "order", "long_numbers"] (sp_writer A.Writer))  : CalleeT P w K mg base (k + 1 + 1) "_law_writer" ["_law_o"] (sp_lwriter A.Writer) := by
  have nd := sc__law_writer.nd
  refine Def.okT T.d__law_writer sc__law_writer (fun _ _ _ _ _ _ us hl => match us, hl with | [_], _ => rfl) (fun xs S Q X h => ?_) ?_ (fun f cdv AA outer s H E hr tk po => have hu := hu_of hr; (ss_one (s_ret (e_newK D_Writer shp_Writer_0_number_keys_tuples_nulls_double_keys_order_long_numbers (by decide) hr (by rfl) tk (k_cons (e_ix (ix_op hr) o_ix (e_var 0) e_int (fun _ _ => rfl)) (k_cons (e_ix (ix_op hr) o_ix (e_var 0) e_int (fun _ _ => rfl)) (k_cons (e_ix (ix_op hr) o_ix (e_var 0) e_int (fun _ _ => rfl)) (k_cons (e_ix (ix_op hr) o_ix (e_var 0) e_int (fun _ _ => rfl)) (k_cons (e_ix (ix_op hr) o_ix (e_var 0) e_int (fun _ _ => rfl)) (k_cons (e_ix (ix_op hr) o_ix (e_var 0) e_int (fun _ _ => rfl)) k_nil)))))))))) ?_
  · obtain ⟨r, rfl, ok, hq⟩ := h
    rfl
  · walk_at "mono"
  · intro xs S Q X cQ cX h
    obtain ⟨r, rfl, ok, hq⟩ := h
    simp only [KQ.startT, List.map_cons, List.map_nil, List.length_cons, List.length_nil, Nat.reduceAdd, Nat.reduceSub, List.replicate_succ, List.replicate_zero, List.cons_append, List.nil_append]
    have a0 : atI [Tr.str r.keys, .str r.tups, .str r.nulls, .str r.dbl, .str r.order, .str r.longs] 0 = some (.str r.keys) := atI_nat (j := 0) rfl
    have a1 : atI [Tr.str r.keys, .str r.tups, .str r.nulls, .str r.dbl, .str r.order, .str r.longs] 1 = some (.str r.tups) := atI_nat (j := 1) rfl
    have a2 : atI [Tr.str r.keys, .str r.tups, .str r.nulls, .str r.dbl, .str r.order, .str r.longs] 2 = some (.str r.nulls) := atI_nat (j := 2) rfl
    have a3 : atI [Tr.str r.keys, .str r.tups, .str r.nulls, .str r.dbl, .str r.order, .str r.longs] 3 = some (.str r.dbl) := atI_nat (j := 3) rfl
    have a4 : atI [Tr.str r.keys, .str r.tups, .str r.nulls, .str r.dbl, .str r.order, .str r.longs] 4 = some (.str r.order) := atI_nat (j := 4) rfl
    have a5 : atI [Tr.str r.keys, .str r.tups, .str r.nulls, .str r.dbl, .str r.order, .str r.longs] 5 = some (.str r.longs) := atI_nat (j := 5) rfl
    unfold woT
    walk_at "vn"
    exact ⟨r, rfl, ok, hq⟩

/-! ### _law_pick -/
abbrev N__law_pick : List Str := ["_law_source_here", "_law_words"]
theorem sc__law_pick : FnScope N__law_pick ["_law_source_here", "_law_words"] (defScope s__law_pick) := ⟨rfl, rfl, rfl, by decide +kernel, rfl, by decide +kernel, by decide +kernel⟩
def sp_wpick : TSp := fun xs S Q X => ∃ (a : Addr) (c : Tr) (zs : List Str), xs = [.ref a, .lst (zs.map .str)] ∧ S a = some c ∧ SrcOk c ∧ zs ≠ [] ∧ zs.length ≤ 1000 ∧ ∀ (z : Str) (c' : Tr), z ∈ zs → SrcOk c' → Q (.str z) (put S a c')
theorem ok__law_pick (T : Top K mg A) {k : Nat} (C__law_draw : CalleeT P w K mg base k "_law_draw" ["_law_source_here", "_law_many"] (sp_draw))  : CalleeT P w K mg base (k + 1) "_law_pick" ["_law_source_here", "_law_words"] (sp_wpick) := by
  have nd := sc__law_pick.nd
  refine Def.okT T.d__law_pick sc__law_pick (fun _ _ _ _ _ _ us hl => match us, hl with | [_, _], _ => rfl) (fun xs S Q X h => ?_) ?_ (fun f cdv AA outer s H E hr tk po => have hu := hu_of hr; (ss_one (s_ret (e_ix (ix_op hr) o_ix (e_var 1) (e_call C__law_draw (hr.mono (by omega)) (by rfl) tk (a_cons (e_var 0) (a_cons (e_callB len_op c_len (by rfl) T.b.b_len boot_len (a_cons (e_var 1) a_nil)) a_nil))) (fun _ _ => rfl))))) ?_
  · obtain ⟨a, c, zs, rfl, hS, hc, ne, lz, hq⟩ := h
    rfl
  · walk_at "mono"
  · intro xs S Q X cQ cX h
    obtain ⟨a, c, zs, rfl, hS, hc, ne, lz, hq⟩ := h
    simp only [KQ.startT, List.map_cons, List.map_nil, List.length_cons, List.length_nil, Nat.reduceAdd, Nat.reduceSub, List.replicate_succ, List.replicate_zero, List.cons_append, List.nil_append]
    have l0 : 0 < zs.length := List.length_pos_iff.mpr ne
    walk_at "vn"
    refine draw_ok hS hc (by omega) (by omega) fun r c1 r0 r1 d1 => ?_
    walk_at "vn"
    refine menu_ex (n := zs.length) (by rw [List.length_map]) r0 r1 fun x hx => ?_
    obtain ⟨z, hz, rfl⟩ := List.mem_map.mp hx
    exact hq z c1 hz d1.ok

/-! ### _law_writing -/
abbrev N__law_writing : List Str := ["_law_source_here", "_law_options"]
theorem sc__law_writing : FnScope N__law_writing ["_law_source_here"] (defScope s__law_writing) := ⟨rfl, rfl, rfl, by decide +kernel, rfl, by decide +kernel, by decide +kernel⟩
def sp_writing : TSp := fun xs S Q X => ∃ (a : Addr) (c : Tr), xs = [.ref a] ∧ S a = some c ∧ SrcOk c ∧ ∀ (r : Wo) (c' : Tr), WoOk r → SrcOk c' → Q (woT r) (put S a c')
theorem ok__law_writing (T : Top K mg A) {k : Nat} (C__law_pick : CalleeT P w K mg base k "_law_pick" ["_law_source_here", "_law_words"] (sp_wpick))  : CalleeT P w K mg base (k + 1) "_law_writing" ["_law_source_here"] (sp_writing) := by
  have nd := sc__law_writing.nd
  refine Def.okT T.d__law_writing sc__law_writing (fun _ _ _ _ _ _ us hl => match us, hl with | [_], _ => rfl) (fun xs S Q X h => ?_) ?_ (fun f cdv AA outer s H E hr tk po => have hu := hu_of hr; (ss_cons (s_set (i := 1) nd rfl (Or.inl rfl) (e_lstC (a_cons (e_call C__law_pick (hr.mono (by omega)) (by rfl) tk (a_cons (e_var 0) (a_cons (e_lst (a_cons e_str (a_cons e_str (a_cons e_str a_nil)))) a_nil))) (a_cons (e_call C__law_pick (hr.mono (by omega)) (by rfl) tk (a_cons (e_var 0) (a_cons (e_lst (a_cons e_str (a_cons e_str a_nil))) a_nil))) a_nil))))
      (ss_cons (s_expr (e_mm m_append (e_var 1) (a_cons (e_call C__law_pick (hr.mono (by omega)) (by rfl) tk (a_cons (e_var 0) (a_cons (e_lst (a_cons e_str (a_cons e_str a_nil))) a_nil))) a_nil) (fun ho ha => pe_bm PySem.F.plainAttrs_list PySem.F.slot_list_append PySem.F.type_list_append mt_append ho ha)))
      (ss_cons (s_expr (e_mm m_append (e_var 1) (a_cons (e_call C__law_pick (hr.mono (by omega)) (by rfl) tk (a_cons (e_var 0) (a_cons (e_lst (a_cons e_str (a_cons e_str a_nil))) a_nil))) a_nil) (fun ho ha => pe_bm PySem.F.plainAttrs_list PySem.F.slot_list_append PySem.F.type_list_append mt_append ho ha)))
      (ss_cons (s_expr (e_mm m_append (e_var 1) (a_cons (e_call C__law_pick (hr.mono (by omega)) (by rfl) tk (a_cons (e_var 0) (a_cons (e_lst (a_cons e_str (a_cons e_str a_nil))) a_nil))) a_nil) (fun ho ha => pe_bm PySem.F.plainAttrs_list PySem.F.slot_list_append PySem.F.type_list_append mt_append ho ha)))
      (ss_cons (s_expr (e_mm m_append (e_var 1) (a_cons (e_call C__law_pick (hr.mono (by omega)) (by rfl) tk (a_cons (e_var 0) (a_cons (e_lst (a_cons e_str (a_cons e_str (a_cons e_str a_nil)))) a_nil))) a_nil) (fun ho ha => pe_bm PySem.F.plainAttrs_list PySem.F.slot_list_append PySem.F.type_list_append mt_append ho ha)))
      (ss_frz (i := 1) (ss_one (s_ret (e_var 1)))))))))) ?_
  · obtain ⟨a, c, rfl, hS, hc, hq⟩ := h
    rfl
  · walk_at "mono"
  · intro xs S Q X cQ cX h
    obtain ⟨a, c, rfl, hS, hc, hq⟩ := h
    simp only [KQ.startT, List.map_cons, List.map_nil, List.length_cons, List.length_nil, Nat.reduceAdd, Nat.reduceSub, List.replicate_succ, List.replicate_zero, List.cons_append, List.nil_append]
    replace hq := Hide.mk hq
    walk_at "vn"
    refine ⟨a, c, ["text", "skip", "refuse"], rfl, hS, hc, by simp, by simp, fun z1 c1 h1 d1 => ?_⟩
    refine ⟨a, c1, ["list", "refuse"], rfl, put_same, d1, by simp, by simp, fun z2 c2 h2 d2 => ?_⟩
    rw [put_put]
    walk_at "vn"
    intro p hp
    have npa : p ≠ a := ne_cell put_same hp
    have A1 : ∀ c x, put (put S a c) p x a = some c := fun c x => by rw [put_ne npa.symm]; exact put_same
    have B1 : ∀ c x d, put (put (put S a c) p x) a d = put (put S a d) p x := fun c x d => put3 npa _ _ _
    refine ⟨a, c2, ["keep", "skip"], rfl, A1 _ _, d2, by simp, by simp, fun z3 c3 h3 d3 => ?_⟩
    rw [B1]
    walk_at "vn"
    refine ⟨szn (by simp), ?_⟩
    refine ⟨a, c3, ["keep", "refuse"], rfl, A1 _ _, d3, by simp, by simp, fun z4 c4 h4 d4 => ?_⟩
    rw [B1]
    walk_at "vn"
    refine ⟨szn (by simp), ?_⟩
    refine ⟨a, c4, ["keep", "rising"], rfl, A1 _ _, d4, by simp, by simp, fun z5 c5 h5 d5 => ?_⟩
    rw [B1]
    walk_at "vn"
    refine ⟨szn (by simp), ?_⟩
    refine ⟨a, c5, ["keep", "text", "refuse"], rfl, A1 _ _, d5, by simp, by simp, fun z6 c6 h6 d6 => ?_⟩
    rw [B1]
    walk_at "vn"
    refine ⟨szn (by simp), ?_⟩
    rw [put_ne npa] at hp
    exact ⟨_, _, Frz.one put_same (sub_new (by rw [put_ne npa]; exact hp)) (by rw [put_ne npa]; exact hp), hq.go ⟨z1, z2, z3, z4, z5, z6⟩ c6 ⟨h1, h2, h3, h4, h5, h6⟩ d6⟩

/-! ### law -/
abbrev N_law : List Str := ["_law_script", "_law_source_here", "_law_o", "_law_model", "_law_value", "_law_found"]
theorem sc_law : FnScope N_law ["_law_script"] (defScope s_law) := ⟨rfl, rfl, rfl, by decide +kernel, rfl, by decide +kernel, by decide +kernel⟩
theorem ok_law (T : Top K mg A) {k : Nat} (C__law_built : CalleeT P w K mg base k "_law_built" ["_law_model"] (sp_lbuilt 62)) (C__law_due : CalleeT P w K mg base k "_law_due" ["_law_model", "_law_o", "_law_path"] (sp_wdue0 62)) (C__law_raw_agrees : CalleeT P w K mg base k "_law_raw_agrees" ["_law_due_here", "_law_found"] (sp_wagree)) (C__law_raw_of : CalleeT P w K mg base k "_law_raw_of" ["_law_writer_here", "_law_value"] (sp_wrof0 A.Table A.Writer)) (C__law_rows : CalleeT P w K mg base k "_law_rows" ["_law_source_here", "_law_depth"] (sp_lrows 3)) (C__law_source : CalleeT P w K mg base k "_law_source" ["_law_script"] (sp_source)) (C__law_writer : CalleeT P w K mg base k "_law_writer" ["_law_o"] (sp_lwriter A.Writer)) (C__law_writing : CalleeT P w K mg base k "_law_writing" ["_law_source_here"] (sp_writing))  : CalleeT P w K mg base (k + 1) "law" ["_law_script"] (sp_law) := by
  have nd := sc_law.nd
  refine Def.okT T.d_law sc_law (fun _ _ _ _ _ _ us hl => match us, hl with | [_], _ => rfl) (fun xs S Q X h => ?_) ?_ (fun f cdv AA outer s H E hr tk po => have hu := hu_of hr; (ss_cons (s_set (i := 1) nd rfl (Or.inl rfl) (e_call C__law_source (hr.mono (by omega)) (by rfl) tk (a_cons (e_var 0) a_nil)))
      (ss_cons (s_set (i := 2) nd rfl (Or.inl rfl) (e_call C__law_writing (hr.mono (by omega)) (by rfl) tk (a_cons (e_var 1) a_nil)))
      (ss_cons (s_set (i := 3) nd rfl (Or.inl rfl) (e_call C__law_rows (hr.mono (by omega)) (by rfl) tk (a_cons (e_var 1) (a_cons e_int a_nil))))
      (ss_cons (s_set (i := 4) nd rfl (Or.inl rfl) (e_call C__law_built (hr.mono (by omega)) (by rfl) tk (a_cons (e_var 3) a_nil)))
      (ss_cons (s_set (i := 5) nd rfl (Or.inl rfl) (e_call C__law_raw_of (hr.mono (by omega)) (by rfl) tk (a_cons (e_call C__law_writer (hr.mono (by omega)) (by rfl) tk (a_cons (e_var 2) a_nil)) (a_cons (e_var 4) a_nil))))
      (ss_cons (s_if (t_not (t_val (e_call C__law_raw_agrees (hr.mono (by omega)) (by rfl) tk (a_cons (e_call C__law_due (hr.mono (by omega)) (by rfl) tk (a_cons (e_var 3) (a_cons (e_var 2) (a_cons (e_lst a_nil) a_nil)))) (a_cons (e_var 5) a_nil))))) (ss_one (s_ret e_bl)) ss_nil)
      (ss_one (s_ret (e_cmp (eq_op hr) o_eq (e_var 4) (e_call C__law_built (hr.mono (by omega)) (by rfl) tk (a_cons (e_var 3) a_nil)) (nomark _))))))))))) ?_
  · obtain ⟨ns, rfl, hl, hq⟩ := h
    rfl
  · walk_at "mono"
  · intro xs S Q X cQ cX h
    obtain ⟨ns, rfl, hl, hq⟩ := h
    simp only [KQ.startT, List.map_cons, List.map_nil, List.length_cons, List.length_nil, Nat.reduceAdd, Nat.reduceSub, List.replicate_succ, List.replicate_zero, List.cons_append, List.nil_append]
    replace hq := Hide.mk hq
    walk_at "vn"
    refine ⟨ns, rfl, hl, fun a c ha hc => ?_⟩
    refine ⟨a, c, rfl, put_same, hc, fun r c1 ok d1 => ?_⟩
    rw [put_put]
    refine ⟨a, c1, 0, rfl, put_same, d1, by decide, by decide, by decide, fun v c2 ov nt dv pv d2 => ?_⟩
    rw [put_put]
    have fin : Q (.bl true) (put S a c2) := cQ.drop (sub_new ha) hq.go
    clear hq
    have pv : vparts v ≤ 1885 := pv
    refine ⟨v, rfl, ov, nt, by omega, by omega, fun D => ?_⟩
    rw [vT_no (C := D) (D := A.Table) v nt]
    refine ⟨r, rfl, ok, ?_⟩
    have eqv : gEq false (vT A.Table v) (vT A.Table v) (.bl true) := vT_eq ov nt (by omega)
    have tail : ∀ x y : Tr, sp_wagree [y, x] (put S a c2) (fun x_6 S1 => x_6 = .bl true ∧ S1 = put S a c2) (fun _ _ _ _ => False) → True := fun _ _ _ => trivial
    clear tail
    refine ⟨r, v, rfl, ov, nt, by omega, by omega, fun w hw => ?_, fun e he => ?_⟩
    · obtain ⟨o1, o2, o3⟩ := wrt_ok r 62 v [] w ov (by omega) hw
      refine ⟨v, r, [], 62, rfl, ov, nt, by omega, by omega, by omega, by simp; omega, fun u hu => ?_, fun e he => ?_⟩
      · rw [hw] at hu
        cases hu
        refine ⟨_, _, rfl, .inl ⟨w, rfl, rfl, by omega, o1, by omega⟩, true, rfl, ?_⟩
        rw [if_neg (by decide)]
        refine ⟨v, rfl, ov, nt, by omega, by omega, fun D => ?_⟩
        rw [vT_no (C := D) (D := A.Table) v nt]
        refine ⟨_, ?_, fin⟩
        rw [vw_vT]
        exact eqv
      · rw [hw] at he; cases he
    · obtain ⟨o1, o2⟩ := wrt_err r 62 v [] e ov (by omega) (by omega) (fun _ h => nomatch h) he
      refine ⟨v, r, [], 62, rfl, ov, nt, by omega, by omega, by omega, by simp; omega, fun u hu => ?_, fun e2 he2 => ?_⟩
      · rw [he] at hu; cases hu
      · rw [he] at he2
        cases he2
        refine ⟨_, _, rfl, .inr ⟨e.1, e.2, rfl, rfl, o1, by simp at o2; omega⟩, true, rfl, ?_⟩
        rw [if_neg (by decide)]
        refine ⟨v, rfl, ov, nt, by omega, by omega, fun D => ?_⟩
        rw [vT_no (C := D) (D := A.Table) v nt]
        refine ⟨_, ?_, fin⟩
        rw [vw_vT]
        exact eqv

end
theorem topK {K : PySem.W.Frag} {h : Heap} {mg : Str → Option Value} (X : K.In h) (G : h.Ns mainGlobals mg) (c : SaysB fbK fnK K) : Top K mg ⟨(), (He.ga K "Table"), (He.ga K "Writer"), (He.ga K "KeysError"), (He.ga K "BadOption"), (He.ga K "Unwritable")⟩ := by
  obtain ⟨fd0, F0⟩ := c.def_ 0 rfl
  obtain ⟨fd1, F1⟩ := c.def_ 1 rfl
  obtain ⟨fd2, F2⟩ := c.def_ 2 rfl
  obtain ⟨fd3, F3⟩ := c.def_ 3 rfl
  obtain ⟨fd4, F4⟩ := c.def_ 4 rfl
  obtain ⟨fd5, F5⟩ := c.def_ 5 rfl
  obtain ⟨fd6, F6⟩ := c.def_ 6 rfl
  obtain ⟨fd7, F7⟩ := c.def_ 7 rfl
  obtain ⟨fd8, F8⟩ := c.def_ 8 rfl
  obtain ⟨fd9, F9⟩ := c.def_ 9 rfl
  obtain ⟨fd10, F10⟩ := c.def_ 10 rfl
  obtain ⟨fd11, F11⟩ := c.def_ 11 rfl
  obtain ⟨fd12, F12⟩ := c.def_ 12 rfl
  obtain ⟨fd13, F13⟩ := c.def_ 13 rfl
  obtain ⟨fd14, F14⟩ := c.def_ 14 rfl
  obtain ⟨fd15, F15⟩ := c.def_ 15 rfl
  obtain ⟨fd16, F16⟩ := c.def_ 16 rfl
  obtain ⟨fd17, F17⟩ := c.def_ 17 rfl
  obtain ⟨fd18, F18⟩ := c.def_ 18 rfl
  obtain ⟨fd19, F19⟩ := c.def_ 19 rfl
  obtain ⟨fd20, F20⟩ := c.def_ 20 rfl
  obtain ⟨fd21, F21⟩ := c.def_ 21 rfl
  obtain ⟨fd22, F22⟩ := c.def_ 22 rfl
  obtain ⟨fd23, F23⟩ := c.def_ 23 rfl
  obtain ⟨fd24, F24⟩ := c.def_ 24 rfl
  obtain ⟨fd25, F25⟩ := c.def_ 25 rfl
  obtain ⟨fd26, F26⟩ := c.def_ 26 rfl
  obtain ⟨fd27, F27⟩ := c.def_ 27 rfl
  obtain ⟨fd28, F28⟩ := c.def_ 28 rfl
  obtain ⟨fd29, F29⟩ := c.def_ 29 rfl
  exact ⟨⟨PySem.W.mg_none_of X G (c.at 0 rfl), PySem.W.mg_none_of X G (c.at 1 rfl), PySem.W.mg_none_of X G (c.at 2 rfl), PySem.W.mg_none_of X G (c.at 3 rfl), PySem.W.mg_none_of X G (c.at 4 rfl), PySem.W.mg_none_of X G (c.at 5 rfl), PySem.W.mg_none_of X G (c.at 6 rfl), PySem.W.mg_none_of X G (c.at 7 rfl), PySem.W.mg_none_of X G (c.at 8 rfl), PySem.W.mg_none_of X G (c.at 9 rfl), PySem.W.mg_none_of X G (c.at 10 rfl), PySem.W.mg_none_of X G (c.at 11 rfl), PySem.W.mg_none_of X G (c.at 12 rfl), PySem.W.mg_none_of X G (c.at 13 rfl), PySem.W.mg_none_of X G (c.at 14 rfl), PySem.W.mg_none_of X G (c.at 15 rfl), PySem.W.mg_none_of X G (c.at 16 rfl), PySem.W.mg_none_of X G (c.at 17 rfl), PySem.W.mg_none_of X G (c.at 18 rfl), PySem.W.mg_none_of X G (c.at 19 rfl), PySem.W.mg_none_of X G (c.at 20 rfl)⟩,
    ⟨⟨_, fd0, fun_of F0, PySem.W.mg_of X G (c.at 21 rfl)⟩⟩,
    ⟨⟨_, fd1, fun_of F1, PySem.W.mg_of X G (c.at 22 rfl)⟩⟩,
    ⟨⟨_, fd2, fun_of F2, PySem.W.mg_of X G (c.at 23 rfl)⟩⟩,
    ⟨⟨_, fd3, fun_of F3, PySem.W.mg_of X G (c.at 24 rfl)⟩⟩,
    ⟨⟨_, fd4, fun_of F4, PySem.W.mg_of X G (c.at 25 rfl)⟩⟩,
    ⟨⟨_, fd5, fun_of F5, PySem.W.mg_of X G (c.at 26 rfl)⟩⟩,
    ⟨⟨_, fd6, fun_of F6, PySem.W.mg_of X G (c.at 27 rfl)⟩⟩,
    ⟨⟨_, fd7, fun_of F7, PySem.W.mg_of X G (c.at 28 rfl)⟩⟩,
    ⟨⟨_, fd8, fun_of F8, PySem.W.mg_of X G (c.at 29 rfl)⟩⟩,
    ⟨⟨_, fd9, F9, (c.at 30 rfl), (c.at 31 rfl)⟩⟩,
    ⟨⟨_, fd10, F10, (c.at 32 rfl), (c.at 33 rfl)⟩⟩,
    ⟨⟨_, fd11, F11, (c.at 34 rfl), (c.at 35 rfl)⟩⟩,
    ⟨⟨_, fd12, F12, (c.at 36 rfl), (c.at 37 rfl)⟩⟩,
    ⟨⟨_, fd13, fun_of F13, PySem.W.mg_of X G (c.at 38 rfl)⟩⟩,
    ⟨⟨_, fd14, fun_of F14, PySem.W.mg_of X G (c.at 39 rfl)⟩⟩,
    ⟨⟨_, fd15, fun_of F15, PySem.W.mg_of X G (c.at 40 rfl)⟩⟩,
    ⟨⟨_, fd16, fun_of F16, PySem.W.mg_of X G (c.at 41 rfl)⟩⟩,
    ⟨⟨_, fd17, fun_of F17, PySem.W.mg_of X G (c.at 42 rfl)⟩⟩,
    ⟨⟨_, fd18, fun_of F18, PySem.W.mg_of X G (c.at 43 rfl)⟩⟩,
    ⟨⟨_, fd19, fun_of F19, PySem.W.mg_of X G (c.at 44 rfl)⟩⟩,
    ⟨⟨_, fd20, fun_of F20, PySem.W.mg_of X G (c.at 45 rfl)⟩⟩,
    ⟨⟨_, fd21, fun_of F21, PySem.W.mg_of X G (c.at 46 rfl)⟩⟩,
    ⟨⟨_, fd22, fun_of F22, PySem.W.mg_of X G (c.at 47 rfl)⟩⟩,
    ⟨⟨_, fd23, F23, (c.at 48 rfl), (c.at 49 rfl)⟩⟩,
    ⟨⟨_, fd24, fun_of F24, PySem.W.mg_of X G (c.at 50 rfl)⟩⟩,
    ⟨⟨_, fd25, F25, (c.at 51 rfl), (c.at 52 rfl)⟩⟩,
    ⟨⟨_, fd26, fun_of F26, PySem.W.mg_of X G (c.at 53 rfl)⟩⟩,
    ⟨⟨_, fd27, fun_of F27, PySem.W.mg_of X G (c.at 54 rfl)⟩⟩,
    ⟨⟨_, fd28, fun_of F28, PySem.W.mg_of X G (c.at 55 rfl)⟩⟩,
    ⟨⟨_, fd29, fun_of F29, PySem.W.mg_of X G (c.at 56 rfl)⟩⟩,
    ⟨PySem.W.mg_of X G (c.at 57 rfl), ⟨⟨(c.at 58 rfl), (c.at 59 rfl), (c.at 60 rfl), (c.at 61 rfl)⟩, (c.at 62 rfl), (c.at 63 rfl), (c.at 64 rfl), (c.at 65 rfl)⟩, (c.at 66 rfl), (c.at 67 rfl)⟩,
    ⟨PySem.W.mg_of X G (c.at 68 rfl), ⟨⟨(c.at 69 rfl), (c.at 70 rfl), (c.at 71 rfl), (c.at 72 rfl)⟩, (c.at 73 rfl), (c.at 63 rfl), (c.at 64 rfl), (c.at 74 rfl)⟩, (c.at 75 rfl), (c.at 76 rfl)⟩,
    ⟨PySem.W.mg_of X G (c.at 77 rfl)⟩,
    ⟨PySem.W.mg_of X G (c.at 78 rfl)⟩,
    ⟨PySem.W.mg_of X G (c.at 79 rfl)⟩,
    ⟨oexB_ok (c.fact 80 rfl), (c.at 81 rfl), (c.at 82 rfl), (c.at 83 rfl), (c.at 84 rfl)⟩,
    ⟨oexB_ok (c.fact 85 rfl), (c.at 86 rfl), (c.at 87 rfl), (c.at 88 rfl), (c.at 89 rfl)⟩,
    (c.at 90 rfl),
    (c.at 91 rfl),
    (c.at 92 rfl),
    (c.at 93 rfl),
    (c.at 94 rfl),
    (c.at 95 rfl),
    (c.at 96 rfl),
    (c.at 97 rfl),
    (c.at 98 rfl),
    (c.at 99 rfl),
    (c.at 100 rfl),
    (c.at 101 rfl),
    (c.at 102 rfl),
    (c.at 103 rfl),
    ⟨⟨(c.at 69 rfl), (c.at 70 rfl), (c.at 71 rfl), (c.at 72 rfl)⟩, (show PySem.W.findIn K (.ref (He.ga K "Writer")) "number_keys" = some none from (c.at 104 rfl))⟩,
    ⟨⟨(c.at 69 rfl), (c.at 70 rfl), (c.at 71 rfl), (c.at 72 rfl)⟩, (show PySem.W.findIn K (.ref (He.ga K "Writer")) "tuples" = some none from (c.at 105 rfl))⟩,
    ⟨⟨(c.at 69 rfl), (c.at 70 rfl), (c.at 71 rfl), (c.at 72 rfl)⟩, (show PySem.W.findIn K (.ref (He.ga K "Writer")) "nulls" = some none from (c.at 106 rfl))⟩,
    ⟨⟨(c.at 69 rfl), (c.at 70 rfl), (c.at 71 rfl), (c.at 72 rfl)⟩, (show PySem.W.findIn K (.ref (He.ga K "Writer")) "double_keys" = some none from (c.at 107 rfl))⟩,
    ⟨⟨(c.at 69 rfl), (c.at 70 rfl), (c.at 71 rfl), (c.at 72 rfl)⟩, (show PySem.W.findIn K (.ref (He.ga K "Writer")) "order" = some none from (c.at 108 rfl))⟩,
    ⟨⟨(c.at 69 rfl), (c.at 70 rfl), (c.at 71 rfl), (c.at 72 rfl)⟩, (show PySem.W.findIn K (.ref (He.ga K "Writer")) "long_numbers" = some none from (c.at 109 rfl))⟩,
    (c.at 110 rfl),
    (c.at 111 rfl),
    (c.at 112 rfl),
    (c.at 113 rfl),
    (c.at 114 rfl),
    (c.at 115 rfl),
    (c.at 116 rfl),
    (c.at 117 rfl),
    (c.at 118 rfl),
    (c.at 119 rfl),
    (c.at 120 rfl),
    (c.at 121 rfl),
    (c.at 122 rfl),
    (c.at 123 rfl),
    conC_ok (c.at 124 rfl) (c.at 125 rfl) (c.fact 126 rfl),
    ⟨(c.at 127 rfl), (c.at 128 rfl), (c.at 82 rfl), (c.at 129 rfl), (c.at 130 rfl), (c.at 63 rfl), (c.at 64 rfl), (c.at 131 rfl)⟩,
    (c.at 132 rfl),
    (c.at 133 rfl),
    (c.at 134 rfl),
    (c.at 135 rfl),
    ⟨(c.at 136 rfl), (c.at 137 rfl), (c.at 87 rfl), (c.at 138 rfl), (c.at 139 rfl), (c.at 63 rfl), (c.at 64 rfl), (c.at 140 rfl)⟩,
    (c.at 141 rfl),
    (c.at 142 rfl),
    (c.at 143 rfl),
    (c.at 144 rfl),
    gloB_ok (t := .tup [.tup [.str "number_keys", .tup [.str "text", .str "skip", .str "refuse"]], .tup [.str "tuples", .tup [.str "list", .str "refuse"]], .tup [.str "nulls", .tup [.str "keep", .str "skip"]], .tup [.str "double_keys", .tup [.str "keep", .str "refuse"]], .tup [.str "order", .tup [.str "keep", .str "rising"]], .tup [.str "long_numbers", .tup [.str "keep", .str "text", .str "refuse"]]]) X G (c.fact 145 rfl)⟩
theorem lawK {P : Program} {w : World} {K : PySem.W.Frag} {mg : Str → Option Value} {A : Adr} (T : Top K mg A) (base : Heap) : CalleeT P w K mg base 128 "law" ["_law_script"] sp_law := by
  have C__law_built := ok__law_built (P := P) (w := w) (base := base) (k := 0) T  62
  have C__law_long := ok__law_long (P := P) (w := w) (base := base) (k := 0) T 
  have C__law_due := ok__law_due (P := P) (w := w) (base := base) (k := 1) T (C__law_long.lift (by decide : 1 ≤ 1)) 62
  have C__law_atoms := ok__law_atoms (P := P) (w := w) (base := base) (k := 0) T 
  have C__law_path_is := ok__law_path_is (P := P) (w := w) (base := base) (k := 1) T (C__law_atoms.lift (by decide : 1 ≤ 1))
  have C__law_pair := ok__law_pair (P := P) (w := w) (base := base) (k := 0) T 
  have C__law_raw_alike := ok__law_raw_alike (P := P) (w := w) (base := base) (k := 1) T (C__law_atoms.lift (by decide : 1 ≤ 1)) (C__law_pair.lift (by decide : 1 ≤ 1)) 62
  have C__law_raw_agrees := ok__law_raw_agrees (P := P) (w := w) (base := base) (k := 63) T (C__law_path_is.lift (by decide : 2 ≤ 63)) (C__law_raw_alike.lift (by decide : 63 ≤ 63))
  have C_is_integer := ok_is_integer (P := P) (w := w) (base := base) (k := 0) T 
  have M_Writer_raw_pairs := ok_Writer_raw_pairs (P := P) (w := w) (base := base) (k := 0) T 
  have X_Unwritable := ok_Unwritable___init__ (P := P) (w := w) (base := base) (k := 0) T
  have M_Writer_raw_at := ok_Writer_raw_at (P := P) (w := w) (base := base) (k := 1) T (C_is_integer.lift (by decide : 1 ≤ 1)) (M_Writer_raw_pairs.lift (by decide : 1 ≤ 1)) (X_Unwritable.lift (by decide : 1 ≤ 1)) 62
  have M_Writer_raw := ok_Writer_raw (P := P) (w := w) (base := base) (k := 125) T (M_Writer_raw_at.lift (by decide : 125 ≤ 125))
  have C__law_raw_of := ok__law_raw_of (P := P) (w := w) (base := base) (k := 126) T (M_Writer_raw.lift (by decide : 126 ≤ 126))
  have C__law_more := ok__law_more (P := P) (w := w) (base := base) (k := 0) T 
  have C__law_draw := ok__law_draw (P := P) (w := w) (base := base) (k := 1) T (C__law_more.lift (by decide : 1 ≤ 1))
  have C__law_number := ok__law_number (P := P) (w := w) (base := base) (k := 2) T (C__law_draw.lift (by decide : 2 ≤ 2))
  have C__law_sign := ok__law_sign (P := P) (w := w) (base := base) (k := 2) T (C__law_draw.lift (by decide : 2 ≤ 2))
  have C__law_text := ok__law_text (P := P) (w := w) (base := base) (k := 3) T (C__law_draw.lift (by decide : 2 ≤ 3)) (C__law_sign.lift (by decide : 3 ≤ 3))
  have C__law_leaf := ok__law_leaf (P := P) (w := w) (base := base) (k := 4) T (C__law_draw.lift (by decide : 2 ≤ 4)) (C__law_number.lift (by decide : 3 ≤ 4)) (C__law_text.lift (by decide : 4 ≤ 4))
  have C__law_near_long := ok__law_near_long (P := P) (w := w) (base := base) (k := 5) T (C__law_draw.lift (by decide : 2 ≤ 5)) (C__law_leaf.lift (by decide : 5 ≤ 5))
  have C__law_rows := ok__law_rows (P := P) (w := w) (base := base) (k := 6) T (C__law_draw.lift (by decide : 2 ≤ 6)) (C__law_near_long.lift (by decide : 6 ≤ 6)) 3
  have C__law_source := ok__law_source (P := P) (w := w) (base := base) (k := 0) T 
  have X_BadOption := ok_BadOption___init__ (P := P) (w := w) (base := base) (k := 0) T
  have C_check_options := ok_check_options (P := P) (w := w) (base := base) (k := 1) T (X_BadOption.lift (by decide : 1 ≤ 1))
  have D_Writer := ok_Writer___init__ (P := P) (w := w) (base := base) (k := 3) T (C_check_options.lift (by decide : 3 ≤ 3))
  have C__law_writer := ok__law_writer (P := P) (w := w) (base := base) (k := 4) T (D_Writer.lift (by decide : 4 ≤ 4))
  have C__law_pick := ok__law_pick (P := P) (w := w) (base := base) (k := 2) T (C__law_draw.lift (by decide : 2 ≤ 2))
  have C__law_writing := ok__law_writing (P := P) (w := w) (base := base) (k := 3) T (C__law_pick.lift (by decide : 3 ≤ 3))
  have C_law := ok_law (P := P) (w := w) (base := base) (k := 127) T (C__law_built.lift (by decide : 62 ≤ 127)) (C__law_due.lift (by decide : 63 ≤ 127)) (C__law_raw_agrees.lift (by decide : 64 ≤ 127)) (C__law_raw_of.lift (by decide : 127 ≤ 127)) (C__law_rows.lift (by decide : 9 ≤ 127)) (C__law_source.lift (by decide : 1 ≤ 127)) (C__law_writer.lift (by decide : 6 ≤ 127)) (C__law_writing.lift (by decide : 4 ≤ 127))
  exact C_law
theorem endK {w : World} {K : PySem.W.Frag} {h : Heap} {mg : Str → Option Value} {fa : Addr} (X : K.In h) (G : h.Ns mainGlobals mg) (hfa : mg "law" = some (.ref fa)) (c : SaysB fbK fnK K) : ∃ (K : PySem.W.Frag) (fd : FuncData) (sp : Sp), K.In h ∧ (∀ (s : Shared) (u : Value), BindsTo s fd ⟨[u], []⟩ [("_law_script", u)]) ∧ (∀ (H : Hp) (a : Addr) (ns : List Int), ns.length ≤ 63 → Only H → SqL K H a (ns.map V.int) → sp [.ref a] H (fun v _ => v = .bl true) fun _ _ _ => False) ∧ ∀ base : Heap, K.In base → base.Ns mainGlobals mg → FnOk PySem.Challenge.rw_keysthroughtext_k21_rows_written.prog w K mg base (L2.CX PySem.Challenge.rw_keysthroughtext_k21_rows_written.prog w) 128 fa fd ["_law_script"] sp := by
  have T := topK X G c
  obtain ⟨f, fd, F, g⟩ := T.d_law.ex
  have e := hfa.symm.trans g
  cases e
  obtain ⟨oc, od, kV, doc, pm, an, cdv, ct, osl, rfl, lk, hcd⟩ := id F.ex
  exact ⟨K, _, lSp K sp_law, X, fun s v => .of_eq rfl, fun H a ns hl _ hS => law_start hl hS, fun base _ _ => calleeT_fn F g (lawK T base)⟩
end K21
open PySem PySem.W PySem.Calls PyProof.Rows
set_option maxRecDepth 100000 in
set_option maxHeartbeats 0 in
theorem PySem.Challenge.cw_keysthroughtext_k21_rows_written_holds : PySem.Challenge.rw_keysthroughtext_k21_rows_written.Holds := by
  w_on; o_law
  refine HandSHeadRun.head_any (r := OpenLaw.row PySem.Challenge.rw_keysthroughtext_k21_rows_written) (q := view (OpenLaw.row PySem.Challenge.rw_keysthroughtext_k21_rows_written).prog [46]) (H := K21.hkK) (ob := K21.obK) (M := 20000) (loose := K21.looseK) (d := HandSHeadRun.topDef (OpenLaw.row PySem.Challenge.rw_keysthroughtext_k21_rows_written).prog 46) (kwd := []) K21.obK_eq (by kernel_rfl) (fun s => by kernel_rfl) K21.runK (by kernel_rfl) (by kernel_rfl) (by kernel_rfl) (by rfl) (by first | assumption | decide +kernel) (by decide +kernel) ⟨rfl, rfl, rfl, rfl, rfl, by decide +kernel⟩ ?hw ?hc
  case hw => w_witness2
  case hc =>
    refine KQ.walk_ofW (l := PySem.Challenge.rw_keysthroughtext_k21_rows_written) (n := 63) (k := 128) (x := "_law_script") (CX := fun w => L2.CX PySem.Challenge.rw_keysthroughtext_k21_rows_written.prog w) rfl (by decide) (by kernel_rfl) ⟨rfl, by decide, by decide⟩ ?F (fun _ _ _ _ _ h => KQ.law_noexc h)
    intro w mg fa h Y G hmg0
    obtain ⟨K, KX, c⟩ := Y
    have hmg : mg ("law" : PySem.Str) = some (.ref fa) := by
      have e : (HandSHeadRun.topDef (OpenLaw.row PySem.Challenge.rw_keysthroughtext_k21_rows_written).prog 46).name = ("law" : PySem.Str) := by kernel_rfl
      rw [← e]
      exact hmg0
    exact K21.endK KX G hmg c
