import PyProof.Rows.All
import Wide.All
import OpenK.AllK
import Wide.FinOn
import HandS.Base
import HandS.Call
import HandS.Exc
import HandS.Defaults
import HandS.Head0
import HandS.Head1
import HandS.Head2
import HandS.HeadEnd
import HandS.HeadHook1
import HandS.HeadHook2
import HandS.HeadNt
import HandS.HeadHook4
import HandS.HeadHook3
import HandS.ForMost
import HandS.Wide
import HandS.IsInst
import HandS.StrMore
import HandS.Style
import HandS.RaiseMore
import HandS.EndBits
import HandS.Deep
import HandS.ReplaceLit
import HandS.ReplaceList
import HandS.ForExc
import HandS.CallSlots
import HandS.TryMany
import HandS.ExcInit
import HandS.Comp
import HandS.Iter
import HandS.ExcCtx
import HandS.TupAny
import HandS.More
import HandS.Zip
import HandS.SlotsOwn
import HandS.ExcField
import HandS.ExcIs
import KE.KExcIs
import HandS.MakeKwOnly
import HandS.ClsMeth
import HandS.NoneIn
import HandS.Conv
import KE.GoesEnum
import KE.KxField
import PyProof.FString3
import HandS.FStr
import KE.KOpsOwn
import KE.KCallOwn
import HandS.SetFor
import KE.OsRunLaw
import KE.KSortAsk
import HandS.SortKw
import HandS.SetKeys
import HandS.Lambda
import KE.KNestM
import KE.KSortTupAny
import HandS.SortRule
import HandS.Dict
import HandS.HotCalls
import HandS.SuiteRaise
import HandS.RaiseFrom
import HandS.ExcInitHot
import PyProof.RulesMatch
import HandS.Flow
import HandS.ExcBuiltin
import HandS.SortInts
import PySem.Challenge.RW_keysthroughtext_k98_errors_made
set_option Elab.async false
set_option linter.all false
set_option maxRecDepth 100000
set_option maxHeartbeats 4000000

namespace KQ
open PySem PySem.Spec PyProof.Rows L2
/-! ### a head by facts: functions by their names, everything else as Bools over the part -/
abbrev AlB : Type := Bool × List He5.FnW
def obsB (fb : PySem.W.Frag → List Bool) (fn : List He5.DefA) (K : PySem.W.Frag) : AlB := ((fb K).all id && fn.all fun d => d.ok K, fn.map fun d => He5.fnA K (d.at_ K))
def SaysB (fb : PySem.W.Frag → List Bool) (fn : List He5.DefA) (K : PySem.W.Frag) : Prop := obsB fb fn K = (true, fn.map He5.DefA.val)
/-! ### the head's run asked twice: what it looks like and the facts; the functions -/
def obsF (fn : List He5.DefA) (K : PySem.W.Frag) : AlB := (fn.all fun d => d.ok K, fn.map fun d => He5.fnA K (d.at_ K))
/-- a def by its place -/
def FA (p : Str × Option Str) (n q : Str) (st : Stmt) (dfl : List He.Dv) (kwd : List (Str × He.Dv)) : He5.DefA := ⟨fun K => He.fAd K p, n, q, defArgs st, defBody st, defScope st, dfl, kwd⟩
theorem obsB_split {fb : PySem.W.Frag → List Bool} {fn : List He5.DefA} {K : PySem.W.Frag} (h1 : (fb K).all id = true) (h2 : obsF fn K = (true, fn.map He5.DefA.val)) : obsB fb fn K = (true, fn.map He5.DefA.val) := by
  have e1 : (fn.all fun d => d.ok K) = true := congrArg (fun z : AlB => z.1) h2
  have e2 : (fn.map fun d => He5.fnA K (d.at_ K)) = fn.map He5.DefA.val := congrArg (fun z : AlB => z.2) h2
  unfold obsB
  rw [h1, e1, e2]; rfl
open PySem.W PySem.Calls in
def RunA (r : OpenRow) (q : Program) (ob1 : SharedT → Bool) (M : Nat) (loose : List PySem.Str) (w : World) : Prop :=
  ∀ os : OsState, (HandSHeadRun.endF (HandSHeadRun.stepQ (HandSHeadRun.denQ HandSHeadRun.tabQ) r.prog w) M r.prog w os).map (fun s => (HandSHeadRun.looksF r.prog (boot_heap w.params) s.abs, HandSHeadRun.seenQ q loose (importedModules r.prog.main.body) (fun s => xlAt q [] s && recOk r.toRowW.records s) s.abs, ob1 s)) = some (true, openGood q loose, true)
open PySem.W PySem.Calls in
def RunB {β : Type} (r : OpenRow) (ob2 : SharedT → β) (M : Nat) (w : World) (v : β) : Prop :=
  ∀ os : OsState, (HandSHeadRun.endF (HandSHeadRun.stepQ (HandSHeadRun.denQ HandSHeadRun.tabQ) r.prog w) M r.prog w os).map ob2 = some v
/-- an own exception class under ValueError -/
def oexB (K : PySem.W.Frag) (C : Addr) : Bool := match K.lookup C with
  | some ⟨.type "type", _, .cls cd, sl⟩ => (match cd.mro, sl.toList with
    | .ref C' :: bm, [_, _, _, _, some (.builtin n), _] => C' == C && n == "ValueError.__new__" && !cd.hasDel && cd.hasDict && PySem.HandSPX.refsVE bm
    | _, _ => false)
  | _ => false
/-! constants of the module -/
inductive Cs where
  | non
  | bl (b : Bool)
  | int (n : Int)
  | str (z : Str)
  | tup (xs : List Cs)
end KQ
namespace KQ
open PySem PySem.Spec PyProof.Rows L2
/-! ### a head by facts, with empty tables of code objects left out of the part -/
def tabObj : Obj := { cls := .none, data := .fields #[] }
/-! ### .. with dicts of the module, whose keys' hashes the world gives -/
/-! ### look-ups off the tree, by a mask of the addresses -/
open PySem.W PySem.Calls in
/-- the run's looks alone -/
def RunL (r : OpenRow) (q : Program) (M : Nat) (loose : List PySem.Str) (w : World) : Prop :=
  ∀ os : OsState, (HandSHeadRun.endF (HandSHeadRun.stepQ (HandSHeadRun.denQ HandSHeadRun.tabQ) r.prog w) M r.prog w os).map (fun s => (HandSHeadRun.looksF r.prog (boot_heap w.params) s.abs, HandSHeadRun.seenQ q loose (importedModules r.prog.main.body) (fun s => xlAt q [] s && recOk r.toRowW.records s) s.abs)) = some (true, openGood q loose)
open PySem.W PySem.Calls in
theorem RunL.and {r : OpenRow} {q : Program} {M : Nat} {loose : List PySem.Str} {w : World} {ob : SharedT → Bool} (a : RunL r q M loose w) (b : RunB r ob M w true) : RunA r q ob M loose w := by
  intro os
  have ha := a os
  have hb := b os
  cases e : HandSHeadRun.endF (HandSHeadRun.stepQ (HandSHeadRun.denQ HandSHeadRun.tabQ) r.prog w) M r.prog w os with
  | none => rw [e] at hb; cases hb
  | some s =>
    rw [e] at ha hb
    have ea := Option.some.inj ha
    have eb : ob s = true := Option.some.inj hb
    have e1 := congrArg (fun z => z.1) ea
    have e2 := congrArg (fun z => z.2) ea
    simp only [] at e1 e2
    rw [Option.map_some, e1, e2, eb]
open PySem.W PySem.Calls in
theorem RunB.and {r : OpenRow} {M : Nat} {w : World} {o1 o2 o : SharedT → Bool} (a : RunB r o1 M w true) (b : RunB r o2 M w true) (k : ∀ s, o1 s = true → o2 s = true → o s = true) : RunB r o M w true := by
  intro os
  have ha := a os
  have hb := b os
  cases e : HandSHeadRun.endF (HandSHeadRun.stepQ (HandSHeadRun.denQ HandSHeadRun.tabQ) r.prog w) M r.prog w os with
  | none => rw [e] at hb; cases hb
  | some s =>
    rw [e] at ha hb
    rw [Option.map_some, k s (Option.some.inj ha) (Option.some.inj hb)]
open PySem.W PySem.Calls in
theorem RunB.to {β : Type} {r : OpenRow} {M : Nat} {w : World} {o1 o : SharedT → β} {v : β} (a : RunB r o1 M w v) (k : ∀ s, o s = o1 s) : RunB r o M w v := by
  rw [show o = o1 from funext k]; exact a
theorem all_cut {l : List Bool} (n : Nat) (h1 : (l.take n).all id = true) (h2 : (l.drop n).all id = true) : l.all id = true := by
  rw [← List.take_append_drop n l, List.all_append, h1, h2]; rfl
end KQ
namespace KQ
open PySem PySem.Spec PyProof.Rows L2
/-! ### a head whose objects are written out -/
def DE (w : World) (k : Str) (t : Tok) (v : Value) : DictEntry := ⟨PyData.keyHash w.params k, .str k t, v⟩
def FD (st : Stmt) (n q : Str) (g : Addr) (cl : List (Str × Addr)) (d kw doc pm : Value) (an : Option Addr) (code ct : Value) (b : Addr) : Data :=
  .func ⟨n, q, defArgs st, .stmts (defBody st), defScope st, g, cl, d, kw, doc, pm, an, code, ct, b⟩
/-- a code object, a plain function -/
def CO (n q : Str) (t : Tok) (l a b c d : Int) (r : Addr) (e : Int) (r2 : Addr) (u v x : Value) (r3 : Addr) (y : Int) (t2 : Tok) : Obj :=
  ⟨.type "code", none, .fields #[.str n t, .str q (t + 1), .str "/claim/cut.py" (t + 2), .int l 0, .int a 0, .int b 0, .int c 0, .int d 0, .ref r, .bool true, .int e 0, .ref r2, u, v, x, .ref r3, .int y 0, .int l 0, .str "/claim/cut.py" t2], #[]⟩
def FN (st : Stmt) (n q m : Str) (t : Tok) (c : Addr) : Obj := ⟨.type "function", none, FD st n q 3 [] .none .none .none (.str m t) none (.ref c) .none 0, #[]⟩
def hookL (as : List Addr) (KL : World → PySem.W.Frag) (tl : List Addr) (hk : ∀ w, as = (KL w).map (·.1)) : PySem.W.Hook where
  α := List (Option Obj) × List (Option Obj)
  obs := fun s => (as.map s.heap.get?, tl.map s.heap.get?)
  val := fun w => ((KL w).map fun p => some p.2, tl.map fun _ => some tabObj)
  says := fun w h => (KL w).In h ∧ ∀ a ∈ tl, h.get? a = some tabObj
  of := fun w s e => ⟨PySem.W.Frag.in_of (hk w) (congrArg (fun z => z.1) e), fun a ha => by
    have e2 : tl.map s.heap.get? = tl.map fun _ => some tabObj := congrArg (fun z => z.2) e
    exact List.map_inj_left.mp e2 a ha⟩
  keeps := fun w h h' ⟨a, b⟩ k => ⟨PySem.W.Frag.In.keeps a k, fun x hx => k _ _ (b x hx)⟩
def obL (as tl : List Addr) (s : PySem.W.SharedT) : List (Option Obj) × List (Option Obj) := (as.map (HandSHeadRun.getT s), tl.map (HandSHeadRun.getT s))
theorem obL_eq {as tl : List Addr} {KL : World → PySem.W.Frag} {hk : ∀ w, as = (KL w).map (·.1)} (s : PySem.W.SharedT) : obL as tl s = (hookL as KL tl hk).obs s.abs := by
  unfold obL
  rw [show HandSHeadRun.getT s = s.abs.heap.get? from funext (HandSHeadRun.getT_eq s)]
  rfl
theorem fn_cut {fn : List He5.DefA} {K : PySem.W.Frag} (n : Nat) (h1 : obsF (fn.take n) K = (true, (fn.take n).map He5.DefA.val)) (h2 : obsF (fn.drop n) K = (true, (fn.drop n).map He5.DefA.val)) : obsF fn K = (true, fn.map He5.DefA.val) := by
  have a1 : ((fn.take n).all fun d => d.ok K) = true := congrArg (fun z : AlB => z.1) h1
  have a2 : ((fn.take n).map fun d => He5.fnA K (d.at_ K)) = (fn.take n).map He5.DefA.val := congrArg (fun z : AlB => z.2) h1
  have b1 : ((fn.drop n).all fun d => d.ok K) = true := congrArg (fun z : AlB => z.1) h2
  have b2 : ((fn.drop n).map fun d => He5.fnA K (d.at_ K)) = (fn.drop n).map He5.DefA.val := congrArg (fun z : AlB => z.2) h2
  unfold obsF
  refine Prod.ext ?_ ?_
  · show (fn.all fun d => d.ok K) = true
    rw [← List.take_append_drop n fn, List.all_append, a1, b1]; rfl
  · show (fn.map fun d => He5.fnA K (d.at_ K)) = fn.map He5.DefA.val
    rw [← List.take_append_drop n fn, List.map_append, List.map_append, a2, b2]
theorem saysB_lit {fb : PySem.W.Frag → List Bool} {fn : List He5.DefA} {K : PySem.W.Frag} (h1 : (fb K).all id = true) (h2 : obsF fn K = (true, fn.map He5.DefA.val)) : SaysB fb fn K := obsB_split h1 h2
end KQ

namespace K98
open PySem PySem.Spec PyProof.Rows L2 KQ
section
open PySem PySem.W PySem.Calls PyProof.Rows
set_option maxRecDepth 100000 in
set_option maxHeartbeats 0 in
theorem lookK (h : (OpenLaw.row PySem.Challenge.rw_keysthroughtext_k98_errors_made).wellSaid = true → (OpenLaw.row PySem.Challenge.rw_keysthroughtext_k98_errors_made).Holds) : PySem.Challenge.rw_keysthroughtext_k98_errors_made.Holds := by
  w_on; o_law
  exact h (by assumption)
end
def topS (i : Nat) : Stmt := PySem.Challenge.pw_keysthroughtext_k98_errors_made.main.body.getD i (.Pass ⟨0, 0, 0, 0⟩)
abbrev s_BadKey___init__ : Stmt := inClass (topS 2) 0
abbrev s_BadOption___init__ : Stmt := inClass (topS 7) 0
abbrev s_DoubleKey___init__ : Stmt := inClass (topS 3) 0
abbrev s_NoKey___init__ : Stmt := inClass (topS 4) 0
abbrev s_NotText___init__ : Stmt := inClass (topS 5) 0
abbrev s_Refused___init__ : Stmt := inClass (topS 10) 0
abbrev s_TooDeep___init__ : Stmt := inClass (topS 6) 0
abbrev s_Unreadable___init__ : Stmt := inClass (topS 9) 0
abbrev s_Unwritable___init__ : Stmt := inClass (topS 8) 0
abbrev s__law_raise_early : Stmt := topS 29
abbrev s_BadCondition___init__ : Stmt := inClass (topS 11) 0
abbrev s_BadLabel___init__ : Stmt := inClass (topS 12) 0
abbrev s_BadStep___init__ : Stmt := inClass (topS 14) 0
abbrev s_NoGuard___init__ : Stmt := inClass (topS 17) 0
abbrev s_NoLabel___init__ : Stmt := inClass (topS 13) 0
abbrev s_TooMuch___init__ : Stmt := inClass (topS 16) 0
abbrev s_WrongNumber___init__ : Stmt := inClass (topS 15) 0
abbrev s__law_raise_late : Stmt := topS 30
abbrev s__law_caught : Stmt := topS 31
abbrev s__law_classes : Stmt := topS 28
abbrev s__law_fields : Stmt := topS 27
abbrev s__law_more : Stmt := topS 20
abbrev s__law_draw : Stmt := topS 21
abbrev s__law_key : Stmt := topS 22
abbrev s__law_path : Stmt := topS 24
abbrev s__law_text : Stmt := topS 23
abbrev s__law_given : Stmt := topS 25
abbrev s__law_like : Stmt := topS 32
abbrev s__law_made : Stmt := topS 26
abbrev s__law_source : Stmt := topS 19
abbrev s_law : Stmt := topS 33
def fbK (K : PySem.W.Frag) : List Bool := [
  decide (PySem.W.nsIn K mainGlobals "abs" = some none),
  decide (PySem.W.nsIn K mainGlobals "all" = some none),
  decide (PySem.W.nsIn K mainGlobals "any" = some none),
  decide (PySem.W.nsIn K mainGlobals "bool" = some none),
  decide (PySem.W.nsIn K mainGlobals "enumerate" = some none),
  decide (PySem.W.nsIn K mainGlobals "int" = some none),
  decide (PySem.W.nsIn K mainGlobals "isinstance" = some none),
  decide (PySem.W.nsIn K mainGlobals "len" = some none),
  decide (PySem.W.nsIn K mainGlobals "list" = some none),
  decide (PySem.W.nsIn K mainGlobals "max" = some none),
  decide (PySem.W.nsIn K mainGlobals "min" = some none),
  decide (PySem.W.nsIn K mainGlobals "range" = some none),
  decide (PySem.W.nsIn K mainGlobals "set" = some none),
  decide (PySem.W.nsIn K mainGlobals "sorted" = some none),
  decide (PySem.W.nsIn K mainGlobals "str" = some none),
  decide (PySem.W.nsIn K mainGlobals "tuple" = some none),
  decide (PySem.W.nsIn K mainGlobals "zip" = some none),
  decide (PySem.W.nsIn K mainGlobals "iter" = some none),
  decide (PySem.W.nsIn K mainGlobals "ValueError" = some none),
  decide (PySem.W.nsIn K mainGlobals "sum" = some none),
  decide (PySem.W.nsIn K mainGlobals "dict" = some none),
  decide (PySem.W.findIn K (.ref (He.ga K "BadKey")) "__init__" = some (some (.ref (He.ma K (He.ga K "BadKey") "__init__")))),
  decide (PySem.W.isFn K (.ref (He.ma K (He.ga K "BadKey") "__init__")) = true),
  decide (PySem.W.findIn K (.ref (He.ga K "BadOption")) "__init__" = some (some (.ref (He.ma K (He.ga K "BadOption") "__init__")))),
  decide (PySem.W.isFn K (.ref (He.ma K (He.ga K "BadOption") "__init__")) = true),
  decide (PySem.W.findIn K (.ref (He.ga K "DoubleKey")) "__init__" = some (some (.ref (He.ma K (He.ga K "DoubleKey") "__init__")))),
  decide (PySem.W.isFn K (.ref (He.ma K (He.ga K "DoubleKey") "__init__")) = true),
  decide (PySem.W.findIn K (.ref (He.ga K "NoKey")) "__init__" = some (some (.ref (He.ma K (He.ga K "NoKey") "__init__")))),
  decide (PySem.W.isFn K (.ref (He.ma K (He.ga K "NoKey") "__init__")) = true),
  decide (PySem.W.findIn K (.ref (He.ga K "NotText")) "__init__" = some (some (.ref (He.ma K (He.ga K "NotText") "__init__")))),
  decide (PySem.W.isFn K (.ref (He.ma K (He.ga K "NotText") "__init__")) = true),
  decide (PySem.W.findIn K (.ref (He.ga K "Refused")) "__init__" = some (some (.ref (He.ma K (He.ga K "Refused") "__init__")))),
  decide (PySem.W.isFn K (.ref (He.ma K (He.ga K "Refused") "__init__")) = true),
  decide (PySem.W.findIn K (.ref (He.ga K "TooDeep")) "__init__" = some (some (.ref (He.ma K (He.ga K "TooDeep") "__init__")))),
  decide (PySem.W.isFn K (.ref (He.ma K (He.ga K "TooDeep") "__init__")) = true),
  decide (PySem.W.findIn K (.ref (He.ga K "Unreadable")) "__init__" = some (some (.ref (He.ma K (He.ga K "Unreadable") "__init__")))),
  decide (PySem.W.isFn K (.ref (He.ma K (He.ga K "Unreadable") "__init__")) = true),
  decide (PySem.W.findIn K (.ref (He.ga K "Unwritable")) "__init__" = some (some (.ref (He.ma K (He.ga K "Unwritable") "__init__")))),
  decide (PySem.W.isFn K (.ref (He.ma K (He.ga K "Unwritable") "__init__")) = true),
  decide (PySem.W.nsIn K mainGlobals "_law_raise_early" = some (some (.ref (He.ga K "_law_raise_early")))),
  decide (PySem.W.findIn K (.ref (He.ga K "BadCondition")) "__init__" = some (some (.ref (He.ma K (He.ga K "BadCondition") "__init__")))),
  decide (PySem.W.isFn K (.ref (He.ma K (He.ga K "BadCondition") "__init__")) = true),
  decide (PySem.W.findIn K (.ref (He.ga K "BadLabel")) "__init__" = some (some (.ref (He.ma K (He.ga K "BadLabel") "__init__")))),
  decide (PySem.W.isFn K (.ref (He.ma K (He.ga K "BadLabel") "__init__")) = true),
  decide (PySem.W.findIn K (.ref (He.ga K "BadStep")) "__init__" = some (some (.ref (He.ma K (He.ga K "BadStep") "__init__")))),
  decide (PySem.W.isFn K (.ref (He.ma K (He.ga K "BadStep") "__init__")) = true),
  decide (PySem.W.findIn K (.ref (He.ga K "NoGuard")) "__init__" = some (some (.ref (He.ma K (He.ga K "NoGuard") "__init__")))),
  decide (PySem.W.isFn K (.ref (He.ma K (He.ga K "NoGuard") "__init__")) = true),
  decide (PySem.W.findIn K (.ref (He.ga K "NoLabel")) "__init__" = some (some (.ref (He.ma K (He.ga K "NoLabel") "__init__")))),
  decide (PySem.W.isFn K (.ref (He.ma K (He.ga K "NoLabel") "__init__")) = true),
  decide (PySem.W.findIn K (.ref (He.ga K "TooMuch")) "__init__" = some (some (.ref (He.ma K (He.ga K "TooMuch") "__init__")))),
  decide (PySem.W.isFn K (.ref (He.ma K (He.ga K "TooMuch") "__init__")) = true),
  decide (PySem.W.findIn K (.ref (He.ga K "WrongNumber")) "__init__" = some (some (.ref (He.ma K (He.ga K "WrongNumber") "__init__")))),
  decide (PySem.W.isFn K (.ref (He.ma K (He.ga K "WrongNumber") "__init__")) = true),
  decide (PySem.W.nsIn K mainGlobals "_law_raise_late" = some (some (.ref (He.ga K "_law_raise_late")))),
  decide (PySem.W.nsIn K mainGlobals "_law_caught" = some (some (.ref (He.ga K "_law_caught")))),
  decide (PySem.W.nsIn K mainGlobals "_law_classes" = some (some (.ref (He.ga K "_law_classes")))),
  decide (PySem.W.nsIn K mainGlobals "_law_fields" = some (some (.ref (He.ga K "_law_fields")))),
  decide (PySem.W.nsIn K mainGlobals "_law_more" = some (some (.ref (He.ga K "_law_more")))),
  decide (PySem.W.nsIn K mainGlobals "_law_draw" = some (some (.ref (He.ga K "_law_draw")))),
  decide (PySem.W.nsIn K mainGlobals "_law_key" = some (some (.ref (He.ga K "_law_key")))),
  decide (PySem.W.nsIn K mainGlobals "_law_path" = some (some (.ref (He.ga K "_law_path")))),
  decide (PySem.W.nsIn K mainGlobals "_law_text" = some (some (.ref (He.ga K "_law_text")))),
  decide (PySem.W.nsIn K mainGlobals "_law_given" = some (some (.ref (He.ga K "_law_given")))),
  decide (PySem.W.nsIn K mainGlobals "_law_like" = some (some (.ref (He.ga K "_law_like")))),
  decide (PySem.W.nsIn K mainGlobals "_law_made" = some (some (.ref (He.ga K "_law_made")))),
  decide (PySem.W.nsIn K mainGlobals "_law_source" = some (some (.ref (He.ga K "_law_source")))),
  decide (PySem.W.nsIn K mainGlobals "law" = some (some (.ref (He.ga K "law")))),
  decide (PySem.W.nsIn K mainGlobals "KeysError" = some (some (.ref (He.ga K "KeysError")))),
  decide (PySem.W.nsIn K mainGlobals "BadKey" = some (some (.ref (He.ga K "BadKey")))),
  decide (PySem.W.nsIn K mainGlobals "DoubleKey" = some (some (.ref (He.ga K "DoubleKey")))),
  decide (PySem.W.nsIn K mainGlobals "NoKey" = some (some (.ref (He.ga K "NoKey")))),
  decide (PySem.W.nsIn K mainGlobals "NotText" = some (some (.ref (He.ga K "NotText")))),
  decide (PySem.W.nsIn K mainGlobals "TooDeep" = some (some (.ref (He.ga K "TooDeep")))),
  decide (PySem.W.nsIn K mainGlobals "BadOption" = some (some (.ref (He.ga K "BadOption")))),
  decide (PySem.W.nsIn K mainGlobals "Unwritable" = some (some (.ref (He.ga K "Unwritable")))),
  decide (PySem.W.nsIn K mainGlobals "Unreadable" = some (some (.ref (He.ga K "Unreadable")))),
  decide (PySem.W.nsIn K mainGlobals "Refused" = some (some (.ref (He.ga K "Refused")))),
  decide (PySem.W.nsIn K mainGlobals "BadCondition" = some (some (.ref (He.ga K "BadCondition")))),
  decide (PySem.W.nsIn K mainGlobals "BadLabel" = some (some (.ref (He.ga K "BadLabel")))),
  decide (PySem.W.nsIn K mainGlobals "NoLabel" = some (some (.ref (He.ga K "NoLabel")))),
  decide (PySem.W.nsIn K mainGlobals "BadStep" = some (some (.ref (He.ga K "BadStep")))),
  decide (PySem.W.nsIn K mainGlobals "WrongNumber" = some (some (.ref (He.ga K "WrongNumber")))),
  decide (PySem.W.nsIn K mainGlobals "TooMuch" = some (some (.ref (He.ga K "TooMuch")))),
  decide (PySem.W.nsIn K mainGlobals "NoGuard" = some (some (.ref (He.ga K "NoGuard")))),
  oexB K (He.ga K "BadKey"),
  decide (PySem.W.findIn K (.ref (He.ga K "BadKey")) "__setattr__" = some (some (.builtin "object.__setattr__"))),
  decide (PySem.W.subIn K (.ref (He.ga K "BadKey")) (.type "BaseException") = some true),
  decide (PySem.W.typeIn K (.ref (He.ga K "BadKey")) = some (.type "type")),
  decide (PySem.W.keepIn K (.ref (He.ga K "BadKey")) = true),
  oexB K (He.ga K "DoubleKey"),
  decide (PySem.W.findIn K (.ref (He.ga K "DoubleKey")) "__setattr__" = some (some (.builtin "object.__setattr__"))),
  decide (PySem.W.subIn K (.ref (He.ga K "DoubleKey")) (.type "BaseException") = some true),
  decide (PySem.W.typeIn K (.ref (He.ga K "DoubleKey")) = some (.type "type")),
  decide (PySem.W.keepIn K (.ref (He.ga K "DoubleKey")) = true),
  oexB K (He.ga K "NoKey"),
  decide (PySem.W.findIn K (.ref (He.ga K "NoKey")) "__setattr__" = some (some (.builtin "object.__setattr__"))),
  decide (PySem.W.subIn K (.ref (He.ga K "NoKey")) (.type "BaseException") = some true),
  decide (PySem.W.typeIn K (.ref (He.ga K "NoKey")) = some (.type "type")),
  decide (PySem.W.keepIn K (.ref (He.ga K "NoKey")) = true),
  oexB K (He.ga K "NotText"),
  decide (PySem.W.findIn K (.ref (He.ga K "NotText")) "__setattr__" = some (some (.builtin "object.__setattr__"))),
  decide (PySem.W.subIn K (.ref (He.ga K "NotText")) (.type "BaseException") = some true),
  decide (PySem.W.typeIn K (.ref (He.ga K "NotText")) = some (.type "type")),
  decide (PySem.W.keepIn K (.ref (He.ga K "NotText")) = true),
  oexB K (He.ga K "TooDeep"),
  decide (PySem.W.findIn K (.ref (He.ga K "TooDeep")) "__setattr__" = some (some (.builtin "object.__setattr__"))),
  decide (PySem.W.subIn K (.ref (He.ga K "TooDeep")) (.type "BaseException") = some true),
  decide (PySem.W.typeIn K (.ref (He.ga K "TooDeep")) = some (.type "type")),
  decide (PySem.W.keepIn K (.ref (He.ga K "TooDeep")) = true),
  oexB K (He.ga K "BadOption"),
  decide (PySem.W.findIn K (.ref (He.ga K "BadOption")) "__setattr__" = some (some (.builtin "object.__setattr__"))),
  decide (PySem.W.subIn K (.ref (He.ga K "BadOption")) (.type "BaseException") = some true),
  decide (PySem.W.typeIn K (.ref (He.ga K "BadOption")) = some (.type "type")),
  decide (PySem.W.keepIn K (.ref (He.ga K "BadOption")) = true),
  oexB K (He.ga K "Unwritable"),
  decide (PySem.W.findIn K (.ref (He.ga K "Unwritable")) "__setattr__" = some (some (.builtin "object.__setattr__"))),
  decide (PySem.W.subIn K (.ref (He.ga K "Unwritable")) (.type "BaseException") = some true),
  decide (PySem.W.typeIn K (.ref (He.ga K "Unwritable")) = some (.type "type")),
  decide (PySem.W.keepIn K (.ref (He.ga K "Unwritable")) = true),
  oexB K (He.ga K "Unreadable"),
  decide (PySem.W.findIn K (.ref (He.ga K "Unreadable")) "__setattr__" = some (some (.builtin "object.__setattr__"))),
  decide (PySem.W.subIn K (.ref (He.ga K "Unreadable")) (.type "BaseException") = some true),
  decide (PySem.W.typeIn K (.ref (He.ga K "Unreadable")) = some (.type "type")),
  decide (PySem.W.keepIn K (.ref (He.ga K "Unreadable")) = true),
  oexB K (He.ga K "Refused"),
  decide (PySem.W.findIn K (.ref (He.ga K "Refused")) "__setattr__" = some (some (.builtin "object.__setattr__"))),
  decide (PySem.W.subIn K (.ref (He.ga K "Refused")) (.type "BaseException") = some true),
  decide (PySem.W.typeIn K (.ref (He.ga K "Refused")) = some (.type "type")),
  decide (PySem.W.keepIn K (.ref (He.ga K "Refused")) = true),
  oexB K (He.ga K "BadCondition"),
  decide (PySem.W.findIn K (.ref (He.ga K "BadCondition")) "__setattr__" = some (some (.builtin "object.__setattr__"))),
  decide (PySem.W.subIn K (.ref (He.ga K "BadCondition")) (.type "BaseException") = some true),
  decide (PySem.W.typeIn K (.ref (He.ga K "BadCondition")) = some (.type "type")),
  decide (PySem.W.keepIn K (.ref (He.ga K "BadCondition")) = true),
  oexB K (He.ga K "BadLabel"),
  decide (PySem.W.findIn K (.ref (He.ga K "BadLabel")) "__setattr__" = some (some (.builtin "object.__setattr__"))),
  decide (PySem.W.subIn K (.ref (He.ga K "BadLabel")) (.type "BaseException") = some true),
  decide (PySem.W.typeIn K (.ref (He.ga K "BadLabel")) = some (.type "type")),
  decide (PySem.W.keepIn K (.ref (He.ga K "BadLabel")) = true),
  oexB K (He.ga K "NoLabel"),
  decide (PySem.W.findIn K (.ref (He.ga K "NoLabel")) "__setattr__" = some (some (.builtin "object.__setattr__"))),
  decide (PySem.W.subIn K (.ref (He.ga K "NoLabel")) (.type "BaseException") = some true),
  decide (PySem.W.typeIn K (.ref (He.ga K "NoLabel")) = some (.type "type")),
  decide (PySem.W.keepIn K (.ref (He.ga K "NoLabel")) = true),
  oexB K (He.ga K "BadStep"),
  decide (PySem.W.findIn K (.ref (He.ga K "BadStep")) "__setattr__" = some (some (.builtin "object.__setattr__"))),
  decide (PySem.W.subIn K (.ref (He.ga K "BadStep")) (.type "BaseException") = some true),
  decide (PySem.W.typeIn K (.ref (He.ga K "BadStep")) = some (.type "type")),
  decide (PySem.W.keepIn K (.ref (He.ga K "BadStep")) = true),
  oexB K (He.ga K "WrongNumber"),
  decide (PySem.W.findIn K (.ref (He.ga K "WrongNumber")) "__setattr__" = some (some (.builtin "object.__setattr__"))),
  decide (PySem.W.subIn K (.ref (He.ga K "WrongNumber")) (.type "BaseException") = some true),
  decide (PySem.W.typeIn K (.ref (He.ga K "WrongNumber")) = some (.type "type")),
  decide (PySem.W.keepIn K (.ref (He.ga K "WrongNumber")) = true),
  oexB K (He.ga K "TooMuch"),
  decide (PySem.W.findIn K (.ref (He.ga K "TooMuch")) "__setattr__" = some (some (.builtin "object.__setattr__"))),
  decide (PySem.W.subIn K (.ref (He.ga K "TooMuch")) (.type "BaseException") = some true),
  decide (PySem.W.typeIn K (.ref (He.ga K "TooMuch")) = some (.type "type")),
  decide (PySem.W.keepIn K (.ref (He.ga K "TooMuch")) = true),
  oexB K (He.ga K "NoGuard"),
  decide (PySem.W.findIn K (.ref (He.ga K "NoGuard")) "__setattr__" = some (some (.builtin "object.__setattr__"))),
  decide (PySem.W.subIn K (.ref (He.ga K "NoGuard")) (.type "BaseException") = some true),
  decide (PySem.W.typeIn K (.ref (He.ga K "NoGuard")) = some (.type "type")),
  decide (PySem.W.keepIn K (.ref (He.ga K "NoGuard")) = true),
  decide (PySem.W.findIn K (.ref (He.ga K "BadKey")) "__getattribute__" = some (some (.builtin "BaseException.__getattribute__"))),
  decide (PySem.W.findIn K (.ref (He.ga K "BadKey")) "__getattr__" = some none),
  decide (PySem.W.hasDictIn K (He.ga K "BadKey") = true),
  decide (PySem.W.findIn K (.ref (He.ga K "BadKey")) "__class__" = some (some (.builtin "object.__class__"))),
  decide (PySem.W.specialIn K (.builtin "object.__class__") "__get__" = some (some (.builtin "getset_descriptor.__get__"))),
  decide (PySem.W.takesIn K (.builtin "object.__class__") = some true),
  decide (PySem.W.mroIn K (He.ga K "BadKey") (.type "object") = some true),
  decide (PySem.W.findIn K (.ref (He.ga K "BadKey")) "key" = some none),
  decide (PySem.W.exmOne K (.ref (He.ga K "BadKey")) (.ref (He.ga K "KeysError")) = some true),
  decide (PySem.W.kitOne K (.ref (He.ga K "BadKey")) (.ref (He.ga K "BadCondition")) = some false),
  decide (PySem.W.kitOne K (.ref (He.ga K "BadKey")) (.ref (He.ga K "BadKey")) = some true),
  decide (PySem.W.kitOne K (.ref (He.ga K "BadKey")) (.ref (He.ga K "BadLabel")) = some false),
  decide (PySem.W.kitOne K (.ref (He.ga K "BadKey")) (.ref (He.ga K "BadOption")) = some false),
  decide (PySem.W.kitOne K (.ref (He.ga K "BadKey")) (.ref (He.ga K "BadStep")) = some false),
  decide (PySem.W.kitOne K (.ref (He.ga K "BadKey")) (.ref (He.ga K "DoubleKey")) = some false),
  decide (PySem.W.kitOne K (.ref (He.ga K "BadKey")) (.ref (He.ga K "KeysError")) = some true),
  decide (PySem.W.kitOne K (.ref (He.ga K "BadKey")) (.ref (He.ga K "NoGuard")) = some false),
  decide (PySem.W.kitOne K (.ref (He.ga K "BadKey")) (.ref (He.ga K "NoKey")) = some false),
  decide (PySem.W.kitOne K (.ref (He.ga K "BadKey")) (.ref (He.ga K "NoLabel")) = some false),
  decide (PySem.W.kitOne K (.ref (He.ga K "BadKey")) (.ref (He.ga K "NotText")) = some false),
  decide (PySem.W.kitOne K (.ref (He.ga K "BadKey")) (.ref (He.ga K "Refused")) = some false),
  decide (PySem.W.kitOne K (.ref (He.ga K "BadKey")) (.ref (He.ga K "TooDeep")) = some false),
  decide (PySem.W.kitOne K (.ref (He.ga K "BadKey")) (.ref (He.ga K "TooMuch")) = some false),
  decide (PySem.W.kitOne K (.ref (He.ga K "BadKey")) (.ref (He.ga K "Unreadable")) = some false),
  decide (PySem.W.kitOne K (.ref (He.ga K "BadKey")) (.ref (He.ga K "Unwritable")) = some false),
  decide (PySem.W.kitOne K (.ref (He.ga K "BadKey")) (.type "ValueError") = some true),
  decide (PySem.W.kitOne K (.ref (He.ga K "BadKey")) (.ref (He.ga K "WrongNumber")) = some false),
  decide (PySem.W.findIn K (.ref (He.ga K "DoubleKey")) "__getattribute__" = some (some (.builtin "BaseException.__getattribute__"))),
  decide (PySem.W.findIn K (.ref (He.ga K "DoubleKey")) "__getattr__" = some none),
  decide (PySem.W.hasDictIn K (He.ga K "DoubleKey") = true),
  decide (PySem.W.findIn K (.ref (He.ga K "DoubleKey")) "__class__" = some (some (.builtin "object.__class__"))),
  decide (PySem.W.mroIn K (He.ga K "DoubleKey") (.type "object") = some true),
  decide (PySem.W.findIn K (.ref (He.ga K "DoubleKey")) "key" = some none),
  decide (PySem.W.exmOne K (.ref (He.ga K "DoubleKey")) (.ref (He.ga K "KeysError")) = some true),
  decide (PySem.W.kitOne K (.ref (He.ga K "DoubleKey")) (.ref (He.ga K "BadCondition")) = some false),
  decide (PySem.W.kitOne K (.ref (He.ga K "DoubleKey")) (.ref (He.ga K "BadKey")) = some false),
  decide (PySem.W.kitOne K (.ref (He.ga K "DoubleKey")) (.ref (He.ga K "BadLabel")) = some false),
  decide (PySem.W.kitOne K (.ref (He.ga K "DoubleKey")) (.ref (He.ga K "BadOption")) = some false),
  decide (PySem.W.kitOne K (.ref (He.ga K "DoubleKey")) (.ref (He.ga K "BadStep")) = some false),
  decide (PySem.W.kitOne K (.ref (He.ga K "DoubleKey")) (.ref (He.ga K "DoubleKey")) = some true),
  decide (PySem.W.kitOne K (.ref (He.ga K "DoubleKey")) (.ref (He.ga K "KeysError")) = some true),
  decide (PySem.W.kitOne K (.ref (He.ga K "DoubleKey")) (.ref (He.ga K "NoGuard")) = some false),
  decide (PySem.W.kitOne K (.ref (He.ga K "DoubleKey")) (.ref (He.ga K "NoKey")) = some false),
  decide (PySem.W.kitOne K (.ref (He.ga K "DoubleKey")) (.ref (He.ga K "NoLabel")) = some false),
  decide (PySem.W.kitOne K (.ref (He.ga K "DoubleKey")) (.ref (He.ga K "NotText")) = some false),
  decide (PySem.W.kitOne K (.ref (He.ga K "DoubleKey")) (.ref (He.ga K "Refused")) = some false),
  decide (PySem.W.kitOne K (.ref (He.ga K "DoubleKey")) (.ref (He.ga K "TooDeep")) = some false),
  decide (PySem.W.kitOne K (.ref (He.ga K "DoubleKey")) (.ref (He.ga K "TooMuch")) = some false),
  decide (PySem.W.kitOne K (.ref (He.ga K "DoubleKey")) (.ref (He.ga K "Unreadable")) = some false),
  decide (PySem.W.kitOne K (.ref (He.ga K "DoubleKey")) (.ref (He.ga K "Unwritable")) = some false),
  decide (PySem.W.kitOne K (.ref (He.ga K "DoubleKey")) (.type "ValueError") = some true),
  decide (PySem.W.kitOne K (.ref (He.ga K "DoubleKey")) (.ref (He.ga K "WrongNumber")) = some false),
  decide (PySem.W.findIn K (.ref (He.ga K "NoKey")) "__getattribute__" = some (some (.builtin "BaseException.__getattribute__"))),
  decide (PySem.W.findIn K (.ref (He.ga K "NoKey")) "__getattr__" = some none),
  decide (PySem.W.hasDictIn K (He.ga K "NoKey") = true),
  decide (PySem.W.findIn K (.ref (He.ga K "NoKey")) "__class__" = some (some (.builtin "object.__class__"))),
  decide (PySem.W.mroIn K (He.ga K "NoKey") (.type "object") = some true),
  decide (PySem.W.findIn K (.ref (He.ga K "NoKey")) "key" = some none),
  decide (PySem.W.exmOne K (.ref (He.ga K "NoKey")) (.ref (He.ga K "KeysError")) = some true),
  decide (PySem.W.kitOne K (.ref (He.ga K "NoKey")) (.ref (He.ga K "BadCondition")) = some false),
  decide (PySem.W.kitOne K (.ref (He.ga K "NoKey")) (.ref (He.ga K "BadKey")) = some false),
  decide (PySem.W.kitOne K (.ref (He.ga K "NoKey")) (.ref (He.ga K "BadLabel")) = some false),
  decide (PySem.W.kitOne K (.ref (He.ga K "NoKey")) (.ref (He.ga K "BadOption")) = some false),
  decide (PySem.W.kitOne K (.ref (He.ga K "NoKey")) (.ref (He.ga K "BadStep")) = some false),
  decide (PySem.W.kitOne K (.ref (He.ga K "NoKey")) (.ref (He.ga K "DoubleKey")) = some false),
  decide (PySem.W.kitOne K (.ref (He.ga K "NoKey")) (.ref (He.ga K "KeysError")) = some true),
  decide (PySem.W.kitOne K (.ref (He.ga K "NoKey")) (.ref (He.ga K "NoGuard")) = some false),
  decide (PySem.W.kitOne K (.ref (He.ga K "NoKey")) (.ref (He.ga K "NoKey")) = some true),
  decide (PySem.W.kitOne K (.ref (He.ga K "NoKey")) (.ref (He.ga K "NoLabel")) = some false),
  decide (PySem.W.kitOne K (.ref (He.ga K "NoKey")) (.ref (He.ga K "NotText")) = some false),
  decide (PySem.W.kitOne K (.ref (He.ga K "NoKey")) (.ref (He.ga K "Refused")) = some false),
  decide (PySem.W.kitOne K (.ref (He.ga K "NoKey")) (.ref (He.ga K "TooDeep")) = some false),
  decide (PySem.W.kitOne K (.ref (He.ga K "NoKey")) (.ref (He.ga K "TooMuch")) = some false),
  decide (PySem.W.kitOne K (.ref (He.ga K "NoKey")) (.ref (He.ga K "Unreadable")) = some false),
  decide (PySem.W.kitOne K (.ref (He.ga K "NoKey")) (.ref (He.ga K "Unwritable")) = some false),
  decide (PySem.W.kitOne K (.ref (He.ga K "NoKey")) (.type "ValueError") = some true),
  decide (PySem.W.kitOne K (.ref (He.ga K "NoKey")) (.ref (He.ga K "WrongNumber")) = some false),
  decide (PySem.W.findIn K (.ref (He.ga K "NotText")) "__getattribute__" = some (some (.builtin "BaseException.__getattribute__"))),
  decide (PySem.W.findIn K (.ref (He.ga K "NotText")) "__getattr__" = some none),
  decide (PySem.W.hasDictIn K (He.ga K "NotText") = true),
  decide (PySem.W.findIn K (.ref (He.ga K "NotText")) "__class__" = some (some (.builtin "object.__class__"))),
  decide (PySem.W.mroIn K (He.ga K "NotText") (.type "object") = some true),
  decide (PySem.W.findIn K (.ref (He.ga K "NotText")) "position" = some none),
  decide (PySem.W.exmOne K (.ref (He.ga K "NotText")) (.ref (He.ga K "KeysError")) = some true),
  decide (PySem.W.kitOne K (.ref (He.ga K "NotText")) (.ref (He.ga K "BadCondition")) = some false),
  decide (PySem.W.kitOne K (.ref (He.ga K "NotText")) (.ref (He.ga K "BadKey")) = some false),
  decide (PySem.W.kitOne K (.ref (He.ga K "NotText")) (.ref (He.ga K "BadLabel")) = some false),
  decide (PySem.W.kitOne K (.ref (He.ga K "NotText")) (.ref (He.ga K "BadOption")) = some false),
  decide (PySem.W.kitOne K (.ref (He.ga K "NotText")) (.ref (He.ga K "BadStep")) = some false),
  decide (PySem.W.kitOne K (.ref (He.ga K "NotText")) (.ref (He.ga K "DoubleKey")) = some false),
  decide (PySem.W.kitOne K (.ref (He.ga K "NotText")) (.ref (He.ga K "KeysError")) = some true),
  decide (PySem.W.kitOne K (.ref (He.ga K "NotText")) (.ref (He.ga K "NoGuard")) = some false),
  decide (PySem.W.kitOne K (.ref (He.ga K "NotText")) (.ref (He.ga K "NoKey")) = some false),
  decide (PySem.W.kitOne K (.ref (He.ga K "NotText")) (.ref (He.ga K "NoLabel")) = some false),
  decide (PySem.W.kitOne K (.ref (He.ga K "NotText")) (.ref (He.ga K "NotText")) = some true),
  decide (PySem.W.kitOne K (.ref (He.ga K "NotText")) (.ref (He.ga K "Refused")) = some false),
  decide (PySem.W.kitOne K (.ref (He.ga K "NotText")) (.ref (He.ga K "TooDeep")) = some false),
  decide (PySem.W.kitOne K (.ref (He.ga K "NotText")) (.ref (He.ga K "TooMuch")) = some false),
  decide (PySem.W.kitOne K (.ref (He.ga K "NotText")) (.ref (He.ga K "Unreadable")) = some false),
  decide (PySem.W.kitOne K (.ref (He.ga K "NotText")) (.ref (He.ga K "Unwritable")) = some false),
  decide (PySem.W.kitOne K (.ref (He.ga K "NotText")) (.type "ValueError") = some true),
  decide (PySem.W.kitOne K (.ref (He.ga K "NotText")) (.ref (He.ga K "WrongNumber")) = some false),
  decide (PySem.W.findIn K (.ref (He.ga K "TooDeep")) "__getattribute__" = some (some (.builtin "BaseException.__getattribute__"))),
  decide (PySem.W.findIn K (.ref (He.ga K "TooDeep")) "__getattr__" = some none),
  decide (PySem.W.hasDictIn K (He.ga K "TooDeep") = true),
  decide (PySem.W.findIn K (.ref (He.ga K "TooDeep")) "__class__" = some (some (.builtin "object.__class__"))),
  decide (PySem.W.mroIn K (He.ga K "TooDeep") (.type "object") = some true),
  decide (PySem.W.findIn K (.ref (He.ga K "TooDeep")) "position" = some none),
  decide (PySem.W.exmOne K (.ref (He.ga K "TooDeep")) (.ref (He.ga K "KeysError")) = some true),
  decide (PySem.W.kitOne K (.ref (He.ga K "TooDeep")) (.ref (He.ga K "BadCondition")) = some false),
  decide (PySem.W.kitOne K (.ref (He.ga K "TooDeep")) (.ref (He.ga K "BadKey")) = some false),
  decide (PySem.W.kitOne K (.ref (He.ga K "TooDeep")) (.ref (He.ga K "BadLabel")) = some false),
  decide (PySem.W.kitOne K (.ref (He.ga K "TooDeep")) (.ref (He.ga K "BadOption")) = some false),
  decide (PySem.W.kitOne K (.ref (He.ga K "TooDeep")) (.ref (He.ga K "BadStep")) = some false),
  decide (PySem.W.kitOne K (.ref (He.ga K "TooDeep")) (.ref (He.ga K "DoubleKey")) = some false),
  decide (PySem.W.kitOne K (.ref (He.ga K "TooDeep")) (.ref (He.ga K "KeysError")) = some true),
  decide (PySem.W.kitOne K (.ref (He.ga K "TooDeep")) (.ref (He.ga K "NoGuard")) = some false),
  decide (PySem.W.kitOne K (.ref (He.ga K "TooDeep")) (.ref (He.ga K "NoKey")) = some false),
  decide (PySem.W.kitOne K (.ref (He.ga K "TooDeep")) (.ref (He.ga K "NoLabel")) = some false),
  decide (PySem.W.kitOne K (.ref (He.ga K "TooDeep")) (.ref (He.ga K "NotText")) = some false),
  decide (PySem.W.kitOne K (.ref (He.ga K "TooDeep")) (.ref (He.ga K "Refused")) = some false),
  decide (PySem.W.kitOne K (.ref (He.ga K "TooDeep")) (.ref (He.ga K "TooDeep")) = some true),
  decide (PySem.W.kitOne K (.ref (He.ga K "TooDeep")) (.ref (He.ga K "TooMuch")) = some false),
  decide (PySem.W.kitOne K (.ref (He.ga K "TooDeep")) (.ref (He.ga K "Unreadable")) = some false),
  decide (PySem.W.kitOne K (.ref (He.ga K "TooDeep")) (.ref (He.ga K "Unwritable")) = some false),
  decide (PySem.W.kitOne K (.ref (He.ga K "TooDeep")) (.type "ValueError") = some true),
  decide (PySem.W.kitOne K (.ref (He.ga K "TooDeep")) (.ref (He.ga K "WrongNumber")) = some false),
  decide (PySem.W.findIn K (.ref (He.ga K "BadOption")) "__getattribute__" = some (some (.builtin "BaseException.__getattribute__"))),
  decide (PySem.W.findIn K (.ref (He.ga K "BadOption")) "__getattr__" = some none),
  decide (PySem.W.hasDictIn K (He.ga K "BadOption") = true),
  decide (PySem.W.findIn K (.ref (He.ga K "BadOption")) "__class__" = some (some (.builtin "object.__class__"))),
  decide (PySem.W.mroIn K (He.ga K "BadOption") (.type "object") = some true),
  decide (PySem.W.findIn K (.ref (He.ga K "BadOption")) "name" = some none),
  decide (PySem.W.findIn K (.ref (He.ga K "BadOption")) "value" = some none),
  decide (PySem.W.exmOne K (.ref (He.ga K "BadOption")) (.ref (He.ga K "KeysError")) = some true),
  decide (PySem.W.kitOne K (.ref (He.ga K "BadOption")) (.ref (He.ga K "BadCondition")) = some false),
  decide (PySem.W.kitOne K (.ref (He.ga K "BadOption")) (.ref (He.ga K "BadKey")) = some false),
  decide (PySem.W.kitOne K (.ref (He.ga K "BadOption")) (.ref (He.ga K "BadLabel")) = some false),
  decide (PySem.W.kitOne K (.ref (He.ga K "BadOption")) (.ref (He.ga K "BadOption")) = some true),
  decide (PySem.W.kitOne K (.ref (He.ga K "BadOption")) (.ref (He.ga K "BadStep")) = some false),
  decide (PySem.W.kitOne K (.ref (He.ga K "BadOption")) (.ref (He.ga K "DoubleKey")) = some false),
  decide (PySem.W.kitOne K (.ref (He.ga K "BadOption")) (.ref (He.ga K "KeysError")) = some true),
  decide (PySem.W.kitOne K (.ref (He.ga K "BadOption")) (.ref (He.ga K "NoGuard")) = some false),
  decide (PySem.W.kitOne K (.ref (He.ga K "BadOption")) (.ref (He.ga K "NoKey")) = some false),
  decide (PySem.W.kitOne K (.ref (He.ga K "BadOption")) (.ref (He.ga K "NoLabel")) = some false),
  decide (PySem.W.kitOne K (.ref (He.ga K "BadOption")) (.ref (He.ga K "NotText")) = some false),
  decide (PySem.W.kitOne K (.ref (He.ga K "BadOption")) (.ref (He.ga K "Refused")) = some false),
  decide (PySem.W.kitOne K (.ref (He.ga K "BadOption")) (.ref (He.ga K "TooDeep")) = some false),
  decide (PySem.W.kitOne K (.ref (He.ga K "BadOption")) (.ref (He.ga K "TooMuch")) = some false),
  decide (PySem.W.kitOne K (.ref (He.ga K "BadOption")) (.ref (He.ga K "Unreadable")) = some false),
  decide (PySem.W.kitOne K (.ref (He.ga K "BadOption")) (.ref (He.ga K "Unwritable")) = some false),
  decide (PySem.W.kitOne K (.ref (He.ga K "BadOption")) (.type "ValueError") = some true),
  decide (PySem.W.kitOne K (.ref (He.ga K "BadOption")) (.ref (He.ga K "WrongNumber")) = some false),
  decide (PySem.W.findIn K (.ref (He.ga K "Unwritable")) "__getattribute__" = some (some (.builtin "BaseException.__getattribute__"))),
  decide (PySem.W.findIn K (.ref (He.ga K "Unwritable")) "__getattr__" = some none),
  decide (PySem.W.hasDictIn K (He.ga K "Unwritable") = true),
  decide (PySem.W.findIn K (.ref (He.ga K "Unwritable")) "__class__" = some (some (.builtin "object.__class__"))),
  decide (PySem.W.mroIn K (He.ga K "Unwritable") (.type "object") = some true),
  decide (PySem.W.findIn K (.ref (He.ga K "Unwritable")) "reason" = some none),
  decide (PySem.W.findIn K (.ref (He.ga K "Unwritable")) "path" = some none),
  decide (PySem.W.exmOne K (.ref (He.ga K "Unwritable")) (.ref (He.ga K "KeysError")) = some true),
  decide (PySem.W.kitOne K (.ref (He.ga K "Unwritable")) (.ref (He.ga K "BadCondition")) = some false),
  decide (PySem.W.kitOne K (.ref (He.ga K "Unwritable")) (.ref (He.ga K "BadKey")) = some false),
  decide (PySem.W.kitOne K (.ref (He.ga K "Unwritable")) (.ref (He.ga K "BadLabel")) = some false),
  decide (PySem.W.kitOne K (.ref (He.ga K "Unwritable")) (.ref (He.ga K "BadOption")) = some false),
  decide (PySem.W.kitOne K (.ref (He.ga K "Unwritable")) (.ref (He.ga K "BadStep")) = some false),
  decide (PySem.W.kitOne K (.ref (He.ga K "Unwritable")) (.ref (He.ga K "DoubleKey")) = some false),
  decide (PySem.W.kitOne K (.ref (He.ga K "Unwritable")) (.ref (He.ga K "KeysError")) = some true),
  decide (PySem.W.kitOne K (.ref (He.ga K "Unwritable")) (.ref (He.ga K "NoGuard")) = some false),
  decide (PySem.W.kitOne K (.ref (He.ga K "Unwritable")) (.ref (He.ga K "NoKey")) = some false),
  decide (PySem.W.kitOne K (.ref (He.ga K "Unwritable")) (.ref (He.ga K "NoLabel")) = some false),
  decide (PySem.W.kitOne K (.ref (He.ga K "Unwritable")) (.ref (He.ga K "NotText")) = some false),
  decide (PySem.W.kitOne K (.ref (He.ga K "Unwritable")) (.ref (He.ga K "Refused")) = some false),
  decide (PySem.W.kitOne K (.ref (He.ga K "Unwritable")) (.ref (He.ga K "TooDeep")) = some false),
  decide (PySem.W.kitOne K (.ref (He.ga K "Unwritable")) (.ref (He.ga K "TooMuch")) = some false),
  decide (PySem.W.kitOne K (.ref (He.ga K "Unwritable")) (.ref (He.ga K "Unreadable")) = some false),
  decide (PySem.W.kitOne K (.ref (He.ga K "Unwritable")) (.ref (He.ga K "Unwritable")) = some true),
  decide (PySem.W.kitOne K (.ref (He.ga K "Unwritable")) (.type "ValueError") = some true),
  decide (PySem.W.kitOne K (.ref (He.ga K "Unwritable")) (.ref (He.ga K "WrongNumber")) = some false),
  decide (PySem.W.findIn K (.ref (He.ga K "Unreadable")) "__getattribute__" = some (some (.builtin "BaseException.__getattribute__"))),
  decide (PySem.W.findIn K (.ref (He.ga K "Unreadable")) "__getattr__" = some none),
  decide (PySem.W.hasDictIn K (He.ga K "Unreadable") = true),
  decide (PySem.W.findIn K (.ref (He.ga K "Unreadable")) "__class__" = some (some (.builtin "object.__class__"))),
  decide (PySem.W.mroIn K (He.ga K "Unreadable") (.type "object") = some true),
  decide (PySem.W.findIn K (.ref (He.ga K "Unreadable")) "reason" = some none),
  decide (PySem.W.findIn K (.ref (He.ga K "Unreadable")) "path" = some none),
  decide (PySem.W.exmOne K (.ref (He.ga K "Unreadable")) (.ref (He.ga K "KeysError")) = some true),
  decide (PySem.W.kitOne K (.ref (He.ga K "Unreadable")) (.ref (He.ga K "BadCondition")) = some false),
  decide (PySem.W.kitOne K (.ref (He.ga K "Unreadable")) (.ref (He.ga K "BadKey")) = some false),
  decide (PySem.W.kitOne K (.ref (He.ga K "Unreadable")) (.ref (He.ga K "BadLabel")) = some false),
  decide (PySem.W.kitOne K (.ref (He.ga K "Unreadable")) (.ref (He.ga K "BadOption")) = some false),
  decide (PySem.W.kitOne K (.ref (He.ga K "Unreadable")) (.ref (He.ga K "BadStep")) = some false),
  decide (PySem.W.kitOne K (.ref (He.ga K "Unreadable")) (.ref (He.ga K "DoubleKey")) = some false),
  decide (PySem.W.kitOne K (.ref (He.ga K "Unreadable")) (.ref (He.ga K "KeysError")) = some true),
  decide (PySem.W.kitOne K (.ref (He.ga K "Unreadable")) (.ref (He.ga K "NoGuard")) = some false),
  decide (PySem.W.kitOne K (.ref (He.ga K "Unreadable")) (.ref (He.ga K "NoKey")) = some false),
  decide (PySem.W.kitOne K (.ref (He.ga K "Unreadable")) (.ref (He.ga K "NoLabel")) = some false),
  decide (PySem.W.kitOne K (.ref (He.ga K "Unreadable")) (.ref (He.ga K "NotText")) = some false),
  decide (PySem.W.kitOne K (.ref (He.ga K "Unreadable")) (.ref (He.ga K "Refused")) = some false),
  decide (PySem.W.kitOne K (.ref (He.ga K "Unreadable")) (.ref (He.ga K "TooDeep")) = some false),
  decide (PySem.W.kitOne K (.ref (He.ga K "Unreadable")) (.ref (He.ga K "TooMuch")) = some false),
  decide (PySem.W.kitOne K (.ref (He.ga K "Unreadable")) (.ref (He.ga K "Unreadable")) = some true),
  decide (PySem.W.kitOne K (.ref (He.ga K "Unreadable")) (.ref (He.ga K "Unwritable")) = some false),
  decide (PySem.W.kitOne K (.ref (He.ga K "Unreadable")) (.type "ValueError") = some true),
  decide (PySem.W.kitOne K (.ref (He.ga K "Unreadable")) (.ref (He.ga K "WrongNumber")) = some false),
  decide (PySem.W.findIn K (.ref (He.ga K "Refused")) "__getattribute__" = some (some (.builtin "BaseException.__getattribute__"))),
  decide (PySem.W.findIn K (.ref (He.ga K "Refused")) "__getattr__" = some none),
  decide (PySem.W.hasDictIn K (He.ga K "Refused") = true),
  decide (PySem.W.findIn K (.ref (He.ga K "Refused")) "__class__" = some (some (.builtin "object.__class__"))),
  decide (PySem.W.mroIn K (He.ga K "Refused") (.type "object") = some true),
  decide (PySem.W.findIn K (.ref (He.ga K "Refused")) "side" = some none),
  decide (PySem.W.findIn K (.ref (He.ga K "Refused")) "reason" = some none),
  decide (PySem.W.findIn K (.ref (He.ga K "Refused")) "path" = some none),
  decide (PySem.W.exmOne K (.ref (He.ga K "Refused")) (.ref (He.ga K "KeysError")) = some true),
  decide (PySem.W.kitOne K (.ref (He.ga K "Refused")) (.ref (He.ga K "BadCondition")) = some false),
  decide (PySem.W.kitOne K (.ref (He.ga K "Refused")) (.ref (He.ga K "BadKey")) = some false),
  decide (PySem.W.kitOne K (.ref (He.ga K "Refused")) (.ref (He.ga K "BadLabel")) = some false),
  decide (PySem.W.kitOne K (.ref (He.ga K "Refused")) (.ref (He.ga K "BadOption")) = some false),
  decide (PySem.W.kitOne K (.ref (He.ga K "Refused")) (.ref (He.ga K "BadStep")) = some false),
  decide (PySem.W.kitOne K (.ref (He.ga K "Refused")) (.ref (He.ga K "DoubleKey")) = some false),
  decide (PySem.W.kitOne K (.ref (He.ga K "Refused")) (.ref (He.ga K "KeysError")) = some true),
  decide (PySem.W.kitOne K (.ref (He.ga K "Refused")) (.ref (He.ga K "NoGuard")) = some false),
  decide (PySem.W.kitOne K (.ref (He.ga K "Refused")) (.ref (He.ga K "NoKey")) = some false),
  decide (PySem.W.kitOne K (.ref (He.ga K "Refused")) (.ref (He.ga K "NoLabel")) = some false),
  decide (PySem.W.kitOne K (.ref (He.ga K "Refused")) (.ref (He.ga K "NotText")) = some false),
  decide (PySem.W.kitOne K (.ref (He.ga K "Refused")) (.ref (He.ga K "Refused")) = some true),
  decide (PySem.W.kitOne K (.ref (He.ga K "Refused")) (.ref (He.ga K "TooDeep")) = some false),
  decide (PySem.W.kitOne K (.ref (He.ga K "Refused")) (.ref (He.ga K "TooMuch")) = some false),
  decide (PySem.W.kitOne K (.ref (He.ga K "Refused")) (.ref (He.ga K "Unreadable")) = some false),
  decide (PySem.W.kitOne K (.ref (He.ga K "Refused")) (.ref (He.ga K "Unwritable")) = some false),
  decide (PySem.W.kitOne K (.ref (He.ga K "Refused")) (.type "ValueError") = some true),
  decide (PySem.W.kitOne K (.ref (He.ga K "Refused")) (.ref (He.ga K "WrongNumber")) = some false),
  decide (PySem.W.findIn K (.ref (He.ga K "BadCondition")) "__getattribute__" = some (some (.builtin "BaseException.__getattribute__"))),
  decide (PySem.W.findIn K (.ref (He.ga K "BadCondition")) "__getattr__" = some none),
  decide (PySem.W.hasDictIn K (He.ga K "BadCondition") = true),
  decide (PySem.W.findIn K (.ref (He.ga K "BadCondition")) "__class__" = some (some (.builtin "object.__class__"))),
  decide (PySem.W.mroIn K (He.ga K "BadCondition") (.type "object") = some true),
  decide (PySem.W.findIn K (.ref (He.ga K "BadCondition")) "value" = some none),
  decide (PySem.W.exmOne K (.ref (He.ga K "BadCondition")) (.ref (He.ga K "KeysError")) = some true),
  decide (PySem.W.kitOne K (.ref (He.ga K "BadCondition")) (.ref (He.ga K "BadCondition")) = some true),
  decide (PySem.W.kitOne K (.ref (He.ga K "BadCondition")) (.ref (He.ga K "BadKey")) = some false),
  decide (PySem.W.kitOne K (.ref (He.ga K "BadCondition")) (.ref (He.ga K "BadLabel")) = some false),
  decide (PySem.W.kitOne K (.ref (He.ga K "BadCondition")) (.ref (He.ga K "BadOption")) = some false),
  decide (PySem.W.kitOne K (.ref (He.ga K "BadCondition")) (.ref (He.ga K "BadStep")) = some false),
  decide (PySem.W.kitOne K (.ref (He.ga K "BadCondition")) (.ref (He.ga K "DoubleKey")) = some false),
  decide (PySem.W.kitOne K (.ref (He.ga K "BadCondition")) (.ref (He.ga K "KeysError")) = some true),
  decide (PySem.W.kitOne K (.ref (He.ga K "BadCondition")) (.ref (He.ga K "NoGuard")) = some false),
  decide (PySem.W.kitOne K (.ref (He.ga K "BadCondition")) (.ref (He.ga K "NoKey")) = some false),
  decide (PySem.W.kitOne K (.ref (He.ga K "BadCondition")) (.ref (He.ga K "NoLabel")) = some false),
  decide (PySem.W.kitOne K (.ref (He.ga K "BadCondition")) (.ref (He.ga K "NotText")) = some false),
  decide (PySem.W.kitOne K (.ref (He.ga K "BadCondition")) (.ref (He.ga K "Refused")) = some false),
  decide (PySem.W.kitOne K (.ref (He.ga K "BadCondition")) (.ref (He.ga K "TooDeep")) = some false),
  decide (PySem.W.kitOne K (.ref (He.ga K "BadCondition")) (.ref (He.ga K "TooMuch")) = some false),
  decide (PySem.W.kitOne K (.ref (He.ga K "BadCondition")) (.ref (He.ga K "Unreadable")) = some false),
  decide (PySem.W.kitOne K (.ref (He.ga K "BadCondition")) (.ref (He.ga K "Unwritable")) = some false),
  decide (PySem.W.kitOne K (.ref (He.ga K "BadCondition")) (.type "ValueError") = some true),
  decide (PySem.W.kitOne K (.ref (He.ga K "BadCondition")) (.ref (He.ga K "WrongNumber")) = some false),
  decide (PySem.W.findIn K (.ref (He.ga K "BadLabel")) "__getattribute__" = some (some (.builtin "BaseException.__getattribute__"))),
  decide (PySem.W.findIn K (.ref (He.ga K "BadLabel")) "__getattr__" = some none),
  decide (PySem.W.hasDictIn K (He.ga K "BadLabel") = true),
  decide (PySem.W.findIn K (.ref (He.ga K "BadLabel")) "__class__" = some (some (.builtin "object.__class__"))),
  decide (PySem.W.mroIn K (He.ga K "BadLabel") (.type "object") = some true),
  decide (PySem.W.findIn K (.ref (He.ga K "BadLabel")) "name" = some none),
  decide (PySem.W.exmOne K (.ref (He.ga K "BadLabel")) (.ref (He.ga K "KeysError")) = some true),
  decide (PySem.W.kitOne K (.ref (He.ga K "BadLabel")) (.ref (He.ga K "BadCondition")) = some false),
  decide (PySem.W.kitOne K (.ref (He.ga K "BadLabel")) (.ref (He.ga K "BadKey")) = some false),
  decide (PySem.W.kitOne K (.ref (He.ga K "BadLabel")) (.ref (He.ga K "BadLabel")) = some true),
  decide (PySem.W.kitOne K (.ref (He.ga K "BadLabel")) (.ref (He.ga K "BadOption")) = some false),
  decide (PySem.W.kitOne K (.ref (He.ga K "BadLabel")) (.ref (He.ga K "BadStep")) = some false),
  decide (PySem.W.kitOne K (.ref (He.ga K "BadLabel")) (.ref (He.ga K "DoubleKey")) = some false),
  decide (PySem.W.kitOne K (.ref (He.ga K "BadLabel")) (.ref (He.ga K "KeysError")) = some true),
  decide (PySem.W.kitOne K (.ref (He.ga K "BadLabel")) (.ref (He.ga K "NoGuard")) = some false),
  decide (PySem.W.kitOne K (.ref (He.ga K "BadLabel")) (.ref (He.ga K "NoKey")) = some false),
  decide (PySem.W.kitOne K (.ref (He.ga K "BadLabel")) (.ref (He.ga K "NoLabel")) = some false),
  decide (PySem.W.kitOne K (.ref (He.ga K "BadLabel")) (.ref (He.ga K "NotText")) = some false),
  decide (PySem.W.kitOne K (.ref (He.ga K "BadLabel")) (.ref (He.ga K "Refused")) = some false),
  decide (PySem.W.kitOne K (.ref (He.ga K "BadLabel")) (.ref (He.ga K "TooDeep")) = some false),
  decide (PySem.W.kitOne K (.ref (He.ga K "BadLabel")) (.ref (He.ga K "TooMuch")) = some false),
  decide (PySem.W.kitOne K (.ref (He.ga K "BadLabel")) (.ref (He.ga K "Unreadable")) = some false),
  decide (PySem.W.kitOne K (.ref (He.ga K "BadLabel")) (.ref (He.ga K "Unwritable")) = some false),
  decide (PySem.W.kitOne K (.ref (He.ga K "BadLabel")) (.type "ValueError") = some true),
  decide (PySem.W.kitOne K (.ref (He.ga K "BadLabel")) (.ref (He.ga K "WrongNumber")) = some false),
  decide (PySem.W.findIn K (.ref (He.ga K "NoLabel")) "__getattribute__" = some (some (.builtin "BaseException.__getattribute__"))),
  decide (PySem.W.findIn K (.ref (He.ga K "NoLabel")) "__getattr__" = some none),
  decide (PySem.W.hasDictIn K (He.ga K "NoLabel") = true),
  decide (PySem.W.findIn K (.ref (He.ga K "NoLabel")) "__class__" = some (some (.builtin "object.__class__"))),
  decide (PySem.W.mroIn K (He.ga K "NoLabel") (.type "object") = some true),
  decide (PySem.W.findIn K (.ref (He.ga K "NoLabel")) "label" = some none),
  decide (PySem.W.exmOne K (.ref (He.ga K "NoLabel")) (.ref (He.ga K "KeysError")) = some true),
  decide (PySem.W.kitOne K (.ref (He.ga K "NoLabel")) (.ref (He.ga K "BadCondition")) = some false),
  decide (PySem.W.kitOne K (.ref (He.ga K "NoLabel")) (.ref (He.ga K "BadKey")) = some false),
  decide (PySem.W.kitOne K (.ref (He.ga K "NoLabel")) (.ref (He.ga K "BadLabel")) = some false),
  decide (PySem.W.kitOne K (.ref (He.ga K "NoLabel")) (.ref (He.ga K "BadOption")) = some false),
  decide (PySem.W.kitOne K (.ref (He.ga K "NoLabel")) (.ref (He.ga K "BadStep")) = some false),
  decide (PySem.W.kitOne K (.ref (He.ga K "NoLabel")) (.ref (He.ga K "DoubleKey")) = some false),
  decide (PySem.W.kitOne K (.ref (He.ga K "NoLabel")) (.ref (He.ga K "KeysError")) = some true),
  decide (PySem.W.kitOne K (.ref (He.ga K "NoLabel")) (.ref (He.ga K "NoGuard")) = some false),
  decide (PySem.W.kitOne K (.ref (He.ga K "NoLabel")) (.ref (He.ga K "NoKey")) = some false),
  decide (PySem.W.kitOne K (.ref (He.ga K "NoLabel")) (.ref (He.ga K "NoLabel")) = some true),
  decide (PySem.W.kitOne K (.ref (He.ga K "NoLabel")) (.ref (He.ga K "NotText")) = some false),
  decide (PySem.W.kitOne K (.ref (He.ga K "NoLabel")) (.ref (He.ga K "Refused")) = some false),
  decide (PySem.W.kitOne K (.ref (He.ga K "NoLabel")) (.ref (He.ga K "TooDeep")) = some false),
  decide (PySem.W.kitOne K (.ref (He.ga K "NoLabel")) (.ref (He.ga K "TooMuch")) = some false),
  decide (PySem.W.kitOne K (.ref (He.ga K "NoLabel")) (.ref (He.ga K "Unreadable")) = some false),
  decide (PySem.W.kitOne K (.ref (He.ga K "NoLabel")) (.ref (He.ga K "Unwritable")) = some false),
  decide (PySem.W.kitOne K (.ref (He.ga K "NoLabel")) (.type "ValueError") = some true),
  decide (PySem.W.kitOne K (.ref (He.ga K "NoLabel")) (.ref (He.ga K "WrongNumber")) = some false),
  decide (PySem.W.findIn K (.ref (He.ga K "BadStep")) "__getattribute__" = some (some (.builtin "BaseException.__getattribute__"))),
  decide (PySem.W.findIn K (.ref (He.ga K "BadStep")) "__getattr__" = some none),
  decide (PySem.W.hasDictIn K (He.ga K "BadStep") = true),
  decide (PySem.W.findIn K (.ref (He.ga K "BadStep")) "__class__" = some (some (.builtin "object.__class__"))),
  decide (PySem.W.mroIn K (He.ga K "BadStep") (.type "object") = some true),
  decide (PySem.W.findIn K (.ref (He.ga K "BadStep")) "index" = some none),
  decide (PySem.W.exmOne K (.ref (He.ga K "BadStep")) (.ref (He.ga K "KeysError")) = some true),
  decide (PySem.W.kitOne K (.ref (He.ga K "BadStep")) (.ref (He.ga K "BadCondition")) = some false),
  decide (PySem.W.kitOne K (.ref (He.ga K "BadStep")) (.ref (He.ga K "BadKey")) = some false),
  decide (PySem.W.kitOne K (.ref (He.ga K "BadStep")) (.ref (He.ga K "BadLabel")) = some false),
  decide (PySem.W.kitOne K (.ref (He.ga K "BadStep")) (.ref (He.ga K "BadOption")) = some false),
  decide (PySem.W.kitOne K (.ref (He.ga K "BadStep")) (.ref (He.ga K "BadStep")) = some true),
  decide (PySem.W.kitOne K (.ref (He.ga K "BadStep")) (.ref (He.ga K "DoubleKey")) = some false),
  decide (PySem.W.kitOne K (.ref (He.ga K "BadStep")) (.ref (He.ga K "KeysError")) = some true),
  decide (PySem.W.kitOne K (.ref (He.ga K "BadStep")) (.ref (He.ga K "NoGuard")) = some false),
  decide (PySem.W.kitOne K (.ref (He.ga K "BadStep")) (.ref (He.ga K "NoKey")) = some false),
  decide (PySem.W.kitOne K (.ref (He.ga K "BadStep")) (.ref (He.ga K "NoLabel")) = some false),
  decide (PySem.W.kitOne K (.ref (He.ga K "BadStep")) (.ref (He.ga K "NotText")) = some false),
  decide (PySem.W.kitOne K (.ref (He.ga K "BadStep")) (.ref (He.ga K "Refused")) = some false),
  decide (PySem.W.kitOne K (.ref (He.ga K "BadStep")) (.ref (He.ga K "TooDeep")) = some false),
  decide (PySem.W.kitOne K (.ref (He.ga K "BadStep")) (.ref (He.ga K "TooMuch")) = some false),
  decide (PySem.W.kitOne K (.ref (He.ga K "BadStep")) (.ref (He.ga K "Unreadable")) = some false),
  decide (PySem.W.kitOne K (.ref (He.ga K "BadStep")) (.ref (He.ga K "Unwritable")) = some false),
  decide (PySem.W.kitOne K (.ref (He.ga K "BadStep")) (.type "ValueError") = some true),
  decide (PySem.W.kitOne K (.ref (He.ga K "BadStep")) (.ref (He.ga K "WrongNumber")) = some false),
  decide (PySem.W.findIn K (.ref (He.ga K "WrongNumber")) "__getattribute__" = some (some (.builtin "BaseException.__getattribute__"))),
  decide (PySem.W.findIn K (.ref (He.ga K "WrongNumber")) "__getattr__" = some none),
  decide (PySem.W.hasDictIn K (He.ga K "WrongNumber") = true),
  decide (PySem.W.findIn K (.ref (He.ga K "WrongNumber")) "__class__" = some (some (.builtin "object.__class__"))),
  decide (PySem.W.mroIn K (He.ga K "WrongNumber") (.type "object") = some true),
  decide (PySem.W.findIn K (.ref (He.ga K "WrongNumber")) "wanted" = some none),
  decide (PySem.W.findIn K (.ref (He.ga K "WrongNumber")) "given" = some none),
  decide (PySem.W.exmOne K (.ref (He.ga K "WrongNumber")) (.ref (He.ga K "KeysError")) = some true),
  decide (PySem.W.kitOne K (.ref (He.ga K "WrongNumber")) (.ref (He.ga K "BadCondition")) = some false),
  decide (PySem.W.kitOne K (.ref (He.ga K "WrongNumber")) (.ref (He.ga K "BadKey")) = some false),
  decide (PySem.W.kitOne K (.ref (He.ga K "WrongNumber")) (.ref (He.ga K "BadLabel")) = some false),
  decide (PySem.W.kitOne K (.ref (He.ga K "WrongNumber")) (.ref (He.ga K "BadOption")) = some false),
  decide (PySem.W.kitOne K (.ref (He.ga K "WrongNumber")) (.ref (He.ga K "BadStep")) = some false),
  decide (PySem.W.kitOne K (.ref (He.ga K "WrongNumber")) (.ref (He.ga K "DoubleKey")) = some false),
  decide (PySem.W.kitOne K (.ref (He.ga K "WrongNumber")) (.ref (He.ga K "KeysError")) = some true),
  decide (PySem.W.kitOne K (.ref (He.ga K "WrongNumber")) (.ref (He.ga K "NoGuard")) = some false),
  decide (PySem.W.kitOne K (.ref (He.ga K "WrongNumber")) (.ref (He.ga K "NoKey")) = some false),
  decide (PySem.W.kitOne K (.ref (He.ga K "WrongNumber")) (.ref (He.ga K "NoLabel")) = some false),
  decide (PySem.W.kitOne K (.ref (He.ga K "WrongNumber")) (.ref (He.ga K "NotText")) = some false),
  decide (PySem.W.kitOne K (.ref (He.ga K "WrongNumber")) (.ref (He.ga K "Refused")) = some false),
  decide (PySem.W.kitOne K (.ref (He.ga K "WrongNumber")) (.ref (He.ga K "TooDeep")) = some false),
  decide (PySem.W.kitOne K (.ref (He.ga K "WrongNumber")) (.ref (He.ga K "TooMuch")) = some false),
  decide (PySem.W.kitOne K (.ref (He.ga K "WrongNumber")) (.ref (He.ga K "Unreadable")) = some false),
  decide (PySem.W.kitOne K (.ref (He.ga K "WrongNumber")) (.ref (He.ga K "Unwritable")) = some false),
  decide (PySem.W.kitOne K (.ref (He.ga K "WrongNumber")) (.type "ValueError") = some true),
  decide (PySem.W.kitOne K (.ref (He.ga K "WrongNumber")) (.ref (He.ga K "WrongNumber")) = some true),
  decide (PySem.W.findIn K (.ref (He.ga K "TooMuch")) "__getattribute__" = some (some (.builtin "BaseException.__getattribute__"))),
  decide (PySem.W.findIn K (.ref (He.ga K "TooMuch")) "__getattr__" = some none),
  decide (PySem.W.hasDictIn K (He.ga K "TooMuch") = true),
  decide (PySem.W.findIn K (.ref (He.ga K "TooMuch")) "__class__" = some (some (.builtin "object.__class__"))),
  decide (PySem.W.mroIn K (He.ga K "TooMuch") (.type "object") = some true),
  decide (PySem.W.findIn K (.ref (He.ga K "TooMuch")) "what" = some none),
  decide (PySem.W.exmOne K (.ref (He.ga K "TooMuch")) (.ref (He.ga K "KeysError")) = some true),
  decide (PySem.W.kitOne K (.ref (He.ga K "TooMuch")) (.ref (He.ga K "BadCondition")) = some false),
  decide (PySem.W.kitOne K (.ref (He.ga K "TooMuch")) (.ref (He.ga K "BadKey")) = some false),
  decide (PySem.W.kitOne K (.ref (He.ga K "TooMuch")) (.ref (He.ga K "BadLabel")) = some false),
  decide (PySem.W.kitOne K (.ref (He.ga K "TooMuch")) (.ref (He.ga K "BadOption")) = some false),
  decide (PySem.W.kitOne K (.ref (He.ga K "TooMuch")) (.ref (He.ga K "BadStep")) = some false),
  decide (PySem.W.kitOne K (.ref (He.ga K "TooMuch")) (.ref (He.ga K "DoubleKey")) = some false),
  decide (PySem.W.kitOne K (.ref (He.ga K "TooMuch")) (.ref (He.ga K "KeysError")) = some true),
  decide (PySem.W.kitOne K (.ref (He.ga K "TooMuch")) (.ref (He.ga K "NoGuard")) = some false),
  decide (PySem.W.kitOne K (.ref (He.ga K "TooMuch")) (.ref (He.ga K "NoKey")) = some false),
  decide (PySem.W.kitOne K (.ref (He.ga K "TooMuch")) (.ref (He.ga K "NoLabel")) = some false),
  decide (PySem.W.kitOne K (.ref (He.ga K "TooMuch")) (.ref (He.ga K "NotText")) = some false),
  decide (PySem.W.kitOne K (.ref (He.ga K "TooMuch")) (.ref (He.ga K "Refused")) = some false),
  decide (PySem.W.kitOne K (.ref (He.ga K "TooMuch")) (.ref (He.ga K "TooDeep")) = some false),
  decide (PySem.W.kitOne K (.ref (He.ga K "TooMuch")) (.ref (He.ga K "TooMuch")) = some true),
  decide (PySem.W.kitOne K (.ref (He.ga K "TooMuch")) (.ref (He.ga K "Unreadable")) = some false),
  decide (PySem.W.kitOne K (.ref (He.ga K "TooMuch")) (.ref (He.ga K "Unwritable")) = some false),
  decide (PySem.W.kitOne K (.ref (He.ga K "TooMuch")) (.type "ValueError") = some true),
  decide (PySem.W.kitOne K (.ref (He.ga K "TooMuch")) (.ref (He.ga K "WrongNumber")) = some false),
  decide (PySem.W.findIn K (.ref (He.ga K "NoGuard")) "__getattribute__" = some (some (.builtin "BaseException.__getattribute__"))),
  decide (PySem.W.findIn K (.ref (He.ga K "NoGuard")) "__getattr__" = some none),
  decide (PySem.W.hasDictIn K (He.ga K "NoGuard") = true),
  decide (PySem.W.findIn K (.ref (He.ga K "NoGuard")) "__class__" = some (some (.builtin "object.__class__"))),
  decide (PySem.W.mroIn K (He.ga K "NoGuard") (.type "object") = some true),
  decide (PySem.W.findIn K (.ref (He.ga K "NoGuard")) "name" = some none),
  decide (PySem.W.exmOne K (.ref (He.ga K "NoGuard")) (.ref (He.ga K "KeysError")) = some true),
  decide (PySem.W.kitOne K (.ref (He.ga K "NoGuard")) (.ref (He.ga K "BadCondition")) = some false),
  decide (PySem.W.kitOne K (.ref (He.ga K "NoGuard")) (.ref (He.ga K "BadKey")) = some false),
  decide (PySem.W.kitOne K (.ref (He.ga K "NoGuard")) (.ref (He.ga K "BadLabel")) = some false),
  decide (PySem.W.kitOne K (.ref (He.ga K "NoGuard")) (.ref (He.ga K "BadOption")) = some false),
  decide (PySem.W.kitOne K (.ref (He.ga K "NoGuard")) (.ref (He.ga K "BadStep")) = some false),
  decide (PySem.W.kitOne K (.ref (He.ga K "NoGuard")) (.ref (He.ga K "DoubleKey")) = some false),
  decide (PySem.W.kitOne K (.ref (He.ga K "NoGuard")) (.ref (He.ga K "KeysError")) = some true),
  decide (PySem.W.kitOne K (.ref (He.ga K "NoGuard")) (.ref (He.ga K "NoGuard")) = some true),
  decide (PySem.W.kitOne K (.ref (He.ga K "NoGuard")) (.ref (He.ga K "NoKey")) = some false),
  decide (PySem.W.kitOne K (.ref (He.ga K "NoGuard")) (.ref (He.ga K "NoLabel")) = some false),
  decide (PySem.W.kitOne K (.ref (He.ga K "NoGuard")) (.ref (He.ga K "NotText")) = some false),
  decide (PySem.W.kitOne K (.ref (He.ga K "NoGuard")) (.ref (He.ga K "Refused")) = some false),
  decide (PySem.W.kitOne K (.ref (He.ga K "NoGuard")) (.ref (He.ga K "TooDeep")) = some false),
  decide (PySem.W.kitOne K (.ref (He.ga K "NoGuard")) (.ref (He.ga K "TooMuch")) = some false),
  decide (PySem.W.kitOne K (.ref (He.ga K "NoGuard")) (.ref (He.ga K "Unreadable")) = some false),
  decide (PySem.W.kitOne K (.ref (He.ga K "NoGuard")) (.ref (He.ga K "Unwritable")) = some false),
  decide (PySem.W.kitOne K (.ref (He.ga K "NoGuard")) (.type "ValueError") = some true),
  decide (PySem.W.kitOne K (.ref (He.ga K "NoGuard")) (.ref (He.ga K "WrongNumber")) = some false)]
def fnK : List He5.DefA := [
  FA ("BadKey", some "__init__") "__init__" "BadKey.__init__" s_BadKey___init__ [] [],
  FA ("BadOption", some "__init__") "__init__" "BadOption.__init__" s_BadOption___init__ [] [],
  FA ("DoubleKey", some "__init__") "__init__" "DoubleKey.__init__" s_DoubleKey___init__ [] [],
  FA ("NoKey", some "__init__") "__init__" "NoKey.__init__" s_NoKey___init__ [] [],
  FA ("NotText", some "__init__") "__init__" "NotText.__init__" s_NotText___init__ [] [],
  FA ("Refused", some "__init__") "__init__" "Refused.__init__" s_Refused___init__ [] [],
  FA ("TooDeep", some "__init__") "__init__" "TooDeep.__init__" s_TooDeep___init__ [] [],
  FA ("Unreadable", some "__init__") "__init__" "Unreadable.__init__" s_Unreadable___init__ [] [],
  FA ("Unwritable", some "__init__") "__init__" "Unwritable.__init__" s_Unwritable___init__ [] [],
  FA ("_law_raise_early", none) "_law_raise_early" "_law_raise_early" s__law_raise_early [] [],
  FA ("BadCondition", some "__init__") "__init__" "BadCondition.__init__" s_BadCondition___init__ [] [],
  FA ("BadLabel", some "__init__") "__init__" "BadLabel.__init__" s_BadLabel___init__ [] [],
  FA ("BadStep", some "__init__") "__init__" "BadStep.__init__" s_BadStep___init__ [] [],
  FA ("NoGuard", some "__init__") "__init__" "NoGuard.__init__" s_NoGuard___init__ [] [],
  FA ("NoLabel", some "__init__") "__init__" "NoLabel.__init__" s_NoLabel___init__ [] [],
  FA ("TooMuch", some "__init__") "__init__" "TooMuch.__init__" s_TooMuch___init__ [] [],
  FA ("WrongNumber", some "__init__") "__init__" "WrongNumber.__init__" s_WrongNumber___init__ [] [],
  FA ("_law_raise_late", none) "_law_raise_late" "_law_raise_late" s__law_raise_late [] [],
  FA ("_law_caught", none) "_law_caught" "_law_caught" s__law_caught [] [],
  FA ("_law_classes", none) "_law_classes" "_law_classes" s__law_classes [] [],
  FA ("_law_fields", none) "_law_fields" "_law_fields" s__law_fields [] [],
  FA ("_law_more", none) "_law_more" "_law_more" s__law_more [] [],
  FA ("_law_draw", none) "_law_draw" "_law_draw" s__law_draw [] [],
  FA ("_law_key", none) "_law_key" "_law_key" s__law_key [] [],
  FA ("_law_path", none) "_law_path" "_law_path" s__law_path [] [],
  FA ("_law_text", none) "_law_text" "_law_text" s__law_text [] [],
  FA ("_law_given", none) "_law_given" "_law_given" s__law_given [] [],
  FA ("_law_like", none) "_law_like" "_law_like" s__law_like [] [],
  FA ("_law_made", none) "_law_made" "_law_made" s__law_made [] [],
  FA ("_law_source", none) "_law_source" "_law_source" s__law_source [] [],
  FA ("law", none) "law" "law" s_law [] []]
def KL4 (w : World) : PySem.W.Frag := []
def KL3 (w : World) : PySem.W.Frag :=
  (97, CO "__init__" "NotText.__init__" 294 18 2 0 0 3 92 181 93 .none (.ref 94) (.ref 95) 96 299 300) ::
  (116, CO "__init__" "TooDeep.__init__" 319 22 2 0 0 3 111 181 112 .none (.ref 113) (.ref 114) 115 324 325) ::
  (135, CO "__init__" "BadOption.__init__" 344 26 3 0 0 3 130 181 131 .none (.ref 132) (.ref 133) 134 350 351) ::
  (154, CO "__init__" "Unwritable.__init__" 371 31 3 0 0 3 149 181 150 .none (.ref 151) (.ref 152) 153 377 378) ::
  (173, CO "__init__" "Unreadable.__init__" 398 36 3 0 0 3 168 181 169 .none (.ref 170) (.ref 171) 172 404 405) ::
  (192, CO "__init__" "Refused.__init__" 425 41 4 0 0 3 187 181 188 .none (.ref 189) (.ref 190) 191 432 433) ::
  (211, CO "__init__" "BadCondition.__init__" 454 47 2 0 0 3 206 181 207 .none (.ref 208) (.ref 209) 210 459 460) ::
  (230, CO "__init__" "BadLabel.__init__" 479 51 2 0 0 3 225 181 226 .none (.ref 227) (.ref 228) 229 484 485) ::
  (249, CO "__init__" "NoLabel.__init__" 504 55 2 0 0 3 244 181 245 .none (.ref 246) (.ref 247) 248 509 510) ::
  (268, CO "__init__" "BadStep.__init__" 529 59 2 0 0 3 263 181 264 .none (.ref 265) (.ref 266) 267 534 535) ::
  (287, CO "__init__" "WrongNumber.__init__" 554 63 3 0 0 3 282 181 283 .none (.ref 284) (.ref 285) 286 560 561) ::
  (306, CO "__init__" "TooMuch.__init__" 581 68 2 0 0 3 301 181 302 .none (.ref 303) (.ref 304) 305 586 587) ::
  (325, CO "__init__" "NoGuard.__init__" 606 72 2 0 0 3 320 181 321 .none (.ref 322) (.ref 323) 324 611 612) ::
  (324, ⟨.none, none, (FD (inClass (topS 17) 0) "__init__" "NoGuard.__init__" 0 [] (.none) (.none) (.none) (.none) none (.none) (.none) 0), #[]⟩) ::
  (305, ⟨.none, none, (FD (inClass (topS 16) 0) "__init__" "TooMuch.__init__" 0 [] (.none) (.none) (.none) (.none) none (.none) (.none) 0), #[]⟩) ::
  (286, ⟨.none, none, (FD (inClass (topS 15) 0) "__init__" "WrongNumber.__init__" 0 [] (.none) (.none) (.none) (.none) none (.none) (.none) 0), #[]⟩) ::
  (267, ⟨.none, none, (FD (inClass (topS 14) 0) "__init__" "BadStep.__init__" 0 [] (.none) (.none) (.none) (.none) none (.none) (.none) 0), #[]⟩) ::
  (248, ⟨.none, none, (FD (inClass (topS 13) 0) "__init__" "NoLabel.__init__" 0 [] (.none) (.none) (.none) (.none) none (.none) (.none) 0), #[]⟩) ::
  (229, ⟨.none, none, (FD (inClass (topS 12) 0) "__init__" "BadLabel.__init__" 0 [] (.none) (.none) (.none) (.none) none (.none) (.none) 0), #[]⟩) ::
  (210, ⟨.none, none, (FD (inClass (topS 11) 0) "__init__" "BadCondition.__init__" 0 [] (.none) (.none) (.none) (.none) none (.none) (.none) 0), #[]⟩) ::
  (191, ⟨.none, none, (FD (inClass (topS 10) 0) "__init__" "Refused.__init__" 0 [] (.none) (.none) (.none) (.none) none (.none) (.none) 0), #[]⟩) ::
  (172, ⟨.none, none, (FD (inClass (topS 9) 0) "__init__" "Unreadable.__init__" 0 [] (.none) (.none) (.none) (.none) none (.none) (.none) 0), #[]⟩) ::
  (153, ⟨.none, none, (FD (inClass (topS 8) 0) "__init__" "Unwritable.__init__" 0 [] (.none) (.none) (.none) (.none) none (.none) (.none) 0), #[]⟩) ::
  (134, ⟨.none, none, (FD (inClass (topS 7) 0) "__init__" "BadOption.__init__" 0 [] (.none) (.none) (.none) (.none) none (.none) (.none) 0), #[]⟩) ::
  (115, ⟨.none, none, (FD (inClass (topS 6) 0) "__init__" "TooDeep.__init__" 0 [] (.none) (.none) (.none) (.none) none (.none) (.none) 0), #[]⟩) ::
  (96, ⟨.none, none, (FD (inClass (topS 5) 0) "__init__" "NotText.__init__" 0 [] (.none) (.none) (.none) (.none) none (.none) (.none) 0), #[]⟩) ::
  (77, ⟨.none, none, (FD (inClass (topS 4) 0) "__init__" "NoKey.__init__" 0 [] (.none) (.none) (.none) (.none) none (.none) (.none) 0), #[]⟩) ::
  (58, ⟨.none, none, (FD (inClass (topS 3) 0) "__init__" "DoubleKey.__init__" 0 [] (.none) (.none) (.none) (.none) none (.none) (.none) 0), #[]⟩) ::
  (39, ⟨.none, none, (FD (inClass (topS 2) 0) "__init__" "BadKey.__init__" 0 [] (.none) (.none) (.none) (.none) none (.none) (.none) 0), #[]⟩) ::
  (2, ⟨.none, none, (.dict #[] 0), #[]⟩) :: KL4 w
def KL2 (w : World) : PySem.W.Frag :=
  (348, ⟨.none, none, (FD (topS 21) "_law_draw" "_law_draw" 0 [] (.none) (.none) (.none) (.none) none (.none) (.none) 0), #[]⟩) ::
  (341, ⟨.none, none, (FD (topS 20) "_law_more" "_law_more" 0 [] (.none) (.none) (.none) (.none) none (.none) (.none) 0), #[]⟩) ::
  (334, ⟨.none, none, (FD (topS 19) "_law_source" "_law_source" 0 [] (.none) (.none) (.none) (.none) none (.none) (.none) 0), #[]⟩) ::
  (327, ⟨.type "tuple", none, (.seq #[.str "name" 614] 0), #[]⟩) ::
  (326, FN (inClass (topS 17) 0) "__init__" "NoGuard.__init__" "keysthroughtext.errors" 187 325) ::
  (308, ⟨.type "tuple", none, (.seq #[.str "what" 589] 0), #[]⟩) ::
  (307, FN (inClass (topS 16) 0) "__init__" "TooMuch.__init__" "keysthroughtext.errors" 187 306) ::
  (289, ⟨.type "tuple", none, (.seq #[.str "given" 563, .str "wanted" 564] 0), #[]⟩) ::
  (288, FN (inClass (topS 15) 0) "__init__" "WrongNumber.__init__" "keysthroughtext.errors" 187 287) ::
  (270, ⟨.type "tuple", none, (.seq #[.str "index" 537] 0), #[]⟩) ::
  (269, FN (inClass (topS 14) 0) "__init__" "BadStep.__init__" "keysthroughtext.errors" 187 268) ::
  (251, ⟨.type "tuple", none, (.seq #[.str "label" 512] 0), #[]⟩) ::
  (250, FN (inClass (topS 13) 0) "__init__" "NoLabel.__init__" "keysthroughtext.errors" 187 249) ::
  (232, ⟨.type "tuple", none, (.seq #[.str "name" 487] 0), #[]⟩) ::
  (231, FN (inClass (topS 12) 0) "__init__" "BadLabel.__init__" "keysthroughtext.errors" 187 230) ::
  (213, ⟨.type "tuple", none, (.seq #[.str "value" 462] 0), #[]⟩) ::
  (212, FN (inClass (topS 11) 0) "__init__" "BadCondition.__init__" "keysthroughtext.errors" 187 211) ::
  (194, ⟨.type "tuple", none, (.seq #[.str "path" 435, .str "reason" 436, .str "side" 437] 0), #[]⟩) ::
  (193, FN (inClass (topS 10) 0) "__init__" "Refused.__init__" "keysthroughtext.errors" 187 192) ::
  (175, ⟨.type "tuple", none, (.seq #[.str "path" 407, .str "reason" 408] 0), #[]⟩) ::
  (174, FN (inClass (topS 9) 0) "__init__" "Unreadable.__init__" "keysthroughtext.errors" 187 173) ::
  (156, ⟨.type "tuple", none, (.seq #[.str "path" 380, .str "reason" 381] 0), #[]⟩) ::
  (155, FN (inClass (topS 8) 0) "__init__" "Unwritable.__init__" "keysthroughtext.errors" 187 154) ::
  (137, ⟨.type "tuple", none, (.seq #[.str "name" 353, .str "value" 354] 0), #[]⟩) ::
  (136, FN (inClass (topS 7) 0) "__init__" "BadOption.__init__" "keysthroughtext.errors" 187 135) ::
  (118, ⟨.type "tuple", none, (.seq #[.str "position" 327] 0), #[]⟩) ::
  (117, FN (inClass (topS 6) 0) "__init__" "TooDeep.__init__" "keysthroughtext.errors" 187 116) ::
  (99, ⟨.type "tuple", none, (.seq #[.str "position" 302] 0), #[]⟩) ::
  (98, FN (inClass (topS 5) 0) "__init__" "NotText.__init__" "keysthroughtext.errors" 187 97) ::
  (80, ⟨.type "tuple", none, (.seq #[.str "key" 277] 0), #[]⟩) ::
  (79, FN (inClass (topS 4) 0) "__init__" "NoKey.__init__" "keysthroughtext.errors" 187 78) ::
  (61, ⟨.type "tuple", none, (.seq #[.str "key" 252] 0), #[]⟩) ::
  (60, FN (inClass (topS 3) 0) "__init__" "DoubleKey.__init__" "keysthroughtext.errors" 187 59) ::
  (42, ⟨.type "tuple", none, (.seq #[.str "key" 227] 0), #[]⟩) ::
  (41, FN (inClass (topS 2) 0) "__init__" "BadKey.__init__" "keysthroughtext.errors" 187 40) ::
  (25, ⟨.type "getset_descriptor", none, (.fields #[.str "__weakref__" 202, .ref 24, .builtin "ExceptionGroup.__weakref__", .none]), #[]⟩) ::
  (22, ⟨.type "tuple", none, (.seq #[] 0), #[]⟩) ::
  (40, CO "__init__" "BadKey.__init__" 219 6 2 0 0 3 35 181 36 .none (.ref 37) (.ref 38) 39 224 225) ::
  (59, CO "__init__" "DoubleKey.__init__" 244 10 2 0 0 3 54 181 55 .none (.ref 56) (.ref 57) 58 249 250) ::
  (78, CO "__init__" "NoKey.__init__" 269 14 2 0 0 3 73 181 74 .none (.ref 75) (.ref 76) 77 274 275) :: KL3 w
def KL1 (w : World) : PySem.W.Frag :=
  (388, FN (topS 27) "_law_fields" "_law_fields" "law_keysthroughtext_k98_errors_made" 619 387) ::
  (343, FN (topS 20) "_law_more" "_law_more" "law_keysthroughtext_k98_errors_made" 619 342) ::
  (350, FN (topS 21) "_law_draw" "_law_draw" "law_keysthroughtext_k98_errors_made" 619 349) ::
  (357, FN (topS 22) "_law_key" "_law_key" "law_keysthroughtext_k98_errors_made" 619 356) ::
  (367, FN (topS 24) "_law_path" "_law_path" "law_keysthroughtext_k98_errors_made" 619 366) ::
  (362, FN (topS 23) "_law_text" "_law_text" "law_keysthroughtext_k98_errors_made" 619 361) ::
  (374, FN (topS 25) "_law_given" "_law_given" "law_keysthroughtext_k98_errors_made" 619 373) ::
  (423, FN (topS 32) "_law_like" "_law_like" "law_keysthroughtext_k98_errors_made" 619 422) ::
  (381, FN (topS 26) "_law_made" "_law_made" "law_keysthroughtext_k98_errors_made" 619 380) ::
  (336, FN (topS 19) "_law_source" "_law_source" "law_keysthroughtext_k98_errors_made" 619 335) ::
  (428, FN (topS 33) "law" "law" "law_keysthroughtext_k98_errors_made" 619 427) ::
  (4, ⟨.type "module", (some 0), .plain, #[]⟩) ::
  (6, ⟨.type "dict", none, (.dict #[] 0), #[]⟩) ::
  (335, CO "_law_source" "_law_source" 621 75 1 0 0 3 332 181 333 .none .none .none 334 624 625) ::
  (342, CO "_law_more" "_law_more" 627 77 1 0 0 3 337 181 338 .none (.ref 339) (.ref 340) 341 635 636) ::
  (349, CO "_law_draw" "_law_draw" 638 89 2 0 0 3 344 181 345 .none (.ref 346) (.ref 347) 348 644 645) ::
  (356, CO "_law_key" "_law_key" 647 95 1 0 0 3 351 181 352 .none (.ref 353) (.ref 354) 355 652 653) ::
  (361, CO "_law_text" "_law_text" 655 98 1 0 0 3 358 181 359 .none .none .none 360 658 659) ::
  (366, CO "_law_path" "_law_path" 661 100 1 0 0 3 363 181 364 .none .none .none 365 664 665) ::
  (373, CO "_law_given" "_law_given" 667 102 2 0 0 3 368 181 369 .none (.ref 370) (.ref 371) 372 673 674) ::
  (380, CO "_law_made" "_law_made" 676 117 4 0 0 3 375 181 376 .none (.ref 377) (.ref 378) 379 683 684) ::
  (387, CO "_law_fields" "_law_fields" 686 149 2 0 0 3 382 181 383 .none (.ref 384) (.ref 385) 386 691 692) ::
  (394, CO "_law_classes" "_law_classes" 694 171 1 0 0 3 389 181 390 .none (.ref 391) (.ref 392) 393 699 700) ::
  (401, CO "_law_raise_early" "_law_raise_early" 702 177 4 0 0 3 396 181 397 .none (.ref 398) (.ref 399) 400 709 710) ::
  (408, CO "_law_raise_late" "_law_raise_late" 712 195 3 0 0 3 403 181 404 .none (.ref 405) (.ref 406) 407 718 719) ::
  (415, CO "_law_caught" "_law_caught" 721 209 4 0 0 3 410 181 411 .none (.ref 412) (.ref 413) 414 729 730) ::
  (422, CO "_law_like" "_law_like" 732 218 2 0 0 3 417 181 418 .none (.ref 419) (.ref 420) 421 737 738) ::
  (427, CO "law" "law" 740 222 1 0 0 3 424 181 425 .none .none .none 426 743 744) ::
  (426, ⟨.none, none, (FD (topS 33) "law" "law" 0 [] (.none) (.none) (.none) (.none) none (.none) (.none) 0), #[]⟩) ::
  (421, ⟨.none, none, (FD (topS 32) "_law_like" "_law_like" 0 [] (.none) (.none) (.none) (.none) none (.none) (.none) 0), #[]⟩) ::
  (414, ⟨.none, none, (FD (topS 31) "_law_caught" "_law_caught" 0 [] (.none) (.none) (.none) (.none) none (.none) (.none) 0), #[]⟩) ::
  (407, ⟨.none, none, (FD (topS 30) "_law_raise_late" "_law_raise_late" 0 [] (.none) (.none) (.none) (.none) none (.none) (.none) 0), #[]⟩) ::
  (400, ⟨.none, none, (FD (topS 29) "_law_raise_early" "_law_raise_early" 0 [] (.none) (.none) (.none) (.none) none (.none) (.none) 0), #[]⟩) ::
  (393, ⟨.none, none, (FD (topS 28) "_law_classes" "_law_classes" 0 [] (.none) (.none) (.none) (.none) none (.none) (.none) 0), #[]⟩) ::
  (386, ⟨.none, none, (FD (topS 27) "_law_fields" "_law_fields" 0 [] (.none) (.none) (.none) (.none) none (.none) (.none) 0), #[]⟩) ::
  (379, ⟨.none, none, (FD (topS 26) "_law_made" "_law_made" 0 [] (.none) (.none) (.none) (.none) none (.none) (.none) 0), #[]⟩) ::
  (372, ⟨.none, none, (FD (topS 25) "_law_given" "_law_given" 0 [] (.none) (.none) (.none) (.none) none (.none) (.none) 0), #[]⟩) ::
  (365, ⟨.none, none, (FD (topS 24) "_law_path" "_law_path" 0 [] (.none) (.none) (.none) (.none) none (.none) (.none) 0), #[]⟩) ::
  (360, ⟨.none, none, (FD (topS 23) "_law_text" "_law_text" 0 [] (.none) (.none) (.none) (.none) none (.none) (.none) 0), #[]⟩) ::
  (355, ⟨.none, none, (FD (topS 22) "_law_key" "_law_key" 0 [] (.none) (.none) (.none) (.none) none (.none) (.none) 0), #[]⟩) :: KL2 w
def KL (w : World) : PySem.W.Frag :=
  (3, ⟨.type "dict", none, (.dict #[DE w "__name__" 165 (.str "law_keysthroughtext_k98_errors_made" 619), DE w "__doc__" 166 (.none), DE w "__package__" 167 (.none), DE w "__loader__" 168 (.builtin "__main__.__loader__#opaque"), DE w "__spec__" 169 (.none), DE w "__annotations__" 170 (.ref 6), DE w "__builtins__" 171 (.ref 4), DE w "__file__" 173 (.str "/claim/cut.py" 172), DE w "__cached__" 174 (.none), DE w "KeysError" 206 (.ref 24), DE w "BadKey" 231 (.ref 44), DE w "DoubleKey" 256 (.ref 63), DE w "NoKey" 281 (.ref 82), DE w "NotText" 306 (.ref 101), DE w "TooDeep" 331 (.ref 120), DE w "BadOption" 358 (.ref 139), DE w "Unwritable" 385 (.ref 158), DE w "Unreadable" 412 (.ref 177), DE w "Refused" 441 (.ref 196), DE w "BadCondition" 466 (.ref 215), DE w "BadLabel" 491 (.ref 234), DE w "NoLabel" 516 (.ref 253), DE w "BadStep" 541 (.ref 272), DE w "WrongNumber" 568 (.ref 291), DE w "TooMuch" 593 (.ref 310), DE w "NoGuard" 618 (.ref 329), DE w "_law_source" 626 (.ref 336), DE w "_law_more" 637 (.ref 343), DE w "_law_draw" 646 (.ref 350), DE w "_law_key" 654 (.ref 357), DE w "_law_text" 660 (.ref 362), DE w "_law_path" 666 (.ref 367), DE w "_law_given" 675 (.ref 374), DE w "_law_made" 685 (.ref 381), DE w "_law_fields" 693 (.ref 388), DE w "_law_classes" 701 (.ref 395), DE w "_law_raise_early" 711 (.ref 402), DE w "_law_raise_late" 720 (.ref 409), DE w "_law_caught" 731 (.ref 416), DE w "_law_like" 739 (.ref 423), DE w "law" 745 (.ref 428)] 41), #[]⟩) ::
  (196, ⟨.type "type", none, (.cls ⟨"Refused", [.ref 24], [.ref 196, .ref 24, .type "ValueError", .type "Exception", .type "BaseException", .type "object"], 195, "Refused", true, [], [], false, none, false⟩), #[some (.ref 180), none, some (.str "Refused" 413), some (.str "Refused" 421), some (.builtin "ValueError.__new__"), some (.bool true)]⟩) ::
  (195, ⟨.type "dict", none, (.dict #[DE w "__module__" 420 (.str "keysthroughtext.errors" 187), DE w "__firstlineno__" 424 (.int (39) 423), DE w "__init__" 434 (.ref 193), DE w "__static_attributes__" 438 (.ref 194), DE w "__doc__" 439 (.none)] 2), #[]⟩) ::
  (139, ⟨.type "type", none, (.cls ⟨"BadOption", [.ref 24], [.ref 139, .ref 24, .type "ValueError", .type "Exception", .type "BaseException", .type "object"], 138, "BadOption", true, [], [], false, none, false⟩), #[some (.ref 123), none, some (.str "BadOption" 332), some (.str "BadOption" 340), some (.builtin "ValueError.__new__"), some (.bool true)]⟩) ::
  (138, ⟨.type "dict", none, (.dict #[DE w "__module__" 339 (.str "keysthroughtext.errors" 187), DE w "__firstlineno__" 343 (.int (24) 342), DE w "__init__" 352 (.ref 136), DE w "__static_attributes__" 355 (.ref 137), DE w "__doc__" 356 (.none)] 2), #[]⟩) ::
  (177, ⟨.type "type", none, (.cls ⟨"Unreadable", [.ref 24], [.ref 177, .ref 24, .type "ValueError", .type "Exception", .type "BaseException", .type "object"], 176, "Unreadable", true, [], [], false, none, false⟩), #[some (.ref 161), none, some (.str "Unreadable" 386), some (.str "Unreadable" 394), some (.builtin "ValueError.__new__"), some (.bool true)]⟩) ::
  (176, ⟨.type "dict", none, (.dict #[DE w "__module__" 393 (.str "keysthroughtext.errors" 187), DE w "__firstlineno__" 397 (.int (34) 396), DE w "__init__" 406 (.ref 174), DE w "__static_attributes__" 409 (.ref 175), DE w "__doc__" 410 (.none)] 2), #[]⟩) ::
  (158, ⟨.type "type", none, (.cls ⟨"Unwritable", [.ref 24], [.ref 158, .ref 24, .type "ValueError", .type "Exception", .type "BaseException", .type "object"], 157, "Unwritable", true, [], [], false, none, false⟩), #[some (.ref 142), none, some (.str "Unwritable" 359), some (.str "Unwritable" 367), some (.builtin "ValueError.__new__"), some (.bool true)]⟩) ::
  (157, ⟨.type "dict", none, (.dict #[DE w "__module__" 366 (.str "keysthroughtext.errors" 187), DE w "__firstlineno__" 370 (.int (29) 369), DE w "__init__" 379 (.ref 155), DE w "__static_attributes__" 382 (.ref 156), DE w "__doc__" 383 (.none)] 2), #[]⟩) ::
  (291, ⟨.type "type", none, (.cls ⟨"WrongNumber", [.ref 24], [.ref 291, .ref 24, .type "ValueError", .type "Exception", .type "BaseException", .type "object"], 290, "WrongNumber", true, [], [], false, none, false⟩), #[some (.ref 275), none, some (.str "WrongNumber" 542), some (.str "WrongNumber" 550), some (.builtin "ValueError.__new__"), some (.bool true)]⟩) ::
  (290, ⟨.type "dict", none, (.dict #[DE w "__module__" 549 (.str "keysthroughtext.errors" 187), DE w "__firstlineno__" 553 (.int (61) 552), DE w "__init__" 562 (.ref 288), DE w "__static_attributes__" 565 (.ref 289), DE w "__doc__" 566 (.none)] 2), #[]⟩) ::
  (44, ⟨.type "type", none, (.cls ⟨"BadKey", [.ref 24], [.ref 44, .ref 24, .type "ValueError", .type "Exception", .type "BaseException", .type "object"], 43, "BadKey", true, [], [], false, none, false⟩), #[some (.ref 28), none, some (.str "BadKey" 207), some (.str "BadKey" 215), some (.builtin "ValueError.__new__"), some (.bool true)]⟩) ::
  (43, ⟨.type "dict", none, (.dict #[DE w "__module__" 214 (.str "keysthroughtext.errors" 187), DE w "__firstlineno__" 218 (.int (4) 217), DE w "__init__" 226 (.ref 41), DE w "__static_attributes__" 228 (.ref 42), DE w "__doc__" 229 (.none)] 2), #[]⟩) ::
  (63, ⟨.type "type", none, (.cls ⟨"DoubleKey", [.ref 24], [.ref 63, .ref 24, .type "ValueError", .type "Exception", .type "BaseException", .type "object"], 62, "DoubleKey", true, [], [], false, none, false⟩), #[some (.ref 47), none, some (.str "DoubleKey" 232), some (.str "DoubleKey" 240), some (.builtin "ValueError.__new__"), some (.bool true)]⟩) ::
  (62, ⟨.type "dict", none, (.dict #[DE w "__module__" 239 (.str "keysthroughtext.errors" 187), DE w "__firstlineno__" 243 (.int (8) 242), DE w "__init__" 251 (.ref 60), DE w "__static_attributes__" 253 (.ref 61), DE w "__doc__" 254 (.none)] 2), #[]⟩) ::
  (82, ⟨.type "type", none, (.cls ⟨"NoKey", [.ref 24], [.ref 82, .ref 24, .type "ValueError", .type "Exception", .type "BaseException", .type "object"], 81, "NoKey", true, [], [], false, none, false⟩), #[some (.ref 66), none, some (.str "NoKey" 257), some (.str "NoKey" 265), some (.builtin "ValueError.__new__"), some (.bool true)]⟩) ::
  (81, ⟨.type "dict", none, (.dict #[DE w "__module__" 264 (.str "keysthroughtext.errors" 187), DE w "__firstlineno__" 268 (.int (12) 267), DE w "__init__" 276 (.ref 79), DE w "__static_attributes__" 278 (.ref 80), DE w "__doc__" 279 (.none)] 2), #[]⟩) ::
  (101, ⟨.type "type", none, (.cls ⟨"NotText", [.ref 24], [.ref 101, .ref 24, .type "ValueError", .type "Exception", .type "BaseException", .type "object"], 100, "NotText", true, [], [], false, none, false⟩), #[some (.ref 85), none, some (.str "NotText" 282), some (.str "NotText" 290), some (.builtin "ValueError.__new__"), some (.bool true)]⟩) ::
  (100, ⟨.type "dict", none, (.dict #[DE w "__module__" 289 (.str "keysthroughtext.errors" 187), DE w "__firstlineno__" 293 (.int (16) 292), DE w "__init__" 301 (.ref 98), DE w "__static_attributes__" 303 (.ref 99), DE w "__doc__" 304 (.none)] 2), #[]⟩) ::
  (120, ⟨.type "type", none, (.cls ⟨"TooDeep", [.ref 24], [.ref 120, .ref 24, .type "ValueError", .type "Exception", .type "BaseException", .type "object"], 119, "TooDeep", true, [], [], false, none, false⟩), #[some (.ref 104), none, some (.str "TooDeep" 307), some (.str "TooDeep" 315), some (.builtin "ValueError.__new__"), some (.bool true)]⟩) ::
  (119, ⟨.type "dict", none, (.dict #[DE w "__module__" 314 (.str "keysthroughtext.errors" 187), DE w "__firstlineno__" 318 (.int (20) 317), DE w "__init__" 326 (.ref 117), DE w "__static_attributes__" 328 (.ref 118), DE w "__doc__" 329 (.none)] 2), #[]⟩) ::
  (215, ⟨.type "type", none, (.cls ⟨"BadCondition", [.ref 24], [.ref 215, .ref 24, .type "ValueError", .type "Exception", .type "BaseException", .type "object"], 214, "BadCondition", true, [], [], false, none, false⟩), #[some (.ref 199), none, some (.str "BadCondition" 442), some (.str "BadCondition" 450), some (.builtin "ValueError.__new__"), some (.bool true)]⟩) ::
  (214, ⟨.type "dict", none, (.dict #[DE w "__module__" 449 (.str "keysthroughtext.errors" 187), DE w "__firstlineno__" 453 (.int (45) 452), DE w "__init__" 461 (.ref 212), DE w "__static_attributes__" 463 (.ref 213), DE w "__doc__" 464 (.none)] 2), #[]⟩) ::
  (234, ⟨.type "type", none, (.cls ⟨"BadLabel", [.ref 24], [.ref 234, .ref 24, .type "ValueError", .type "Exception", .type "BaseException", .type "object"], 233, "BadLabel", true, [], [], false, none, false⟩), #[some (.ref 218), none, some (.str "BadLabel" 467), some (.str "BadLabel" 475), some (.builtin "ValueError.__new__"), some (.bool true)]⟩) ::
  (233, ⟨.type "dict", none, (.dict #[DE w "__module__" 474 (.str "keysthroughtext.errors" 187), DE w "__firstlineno__" 478 (.int (49) 477), DE w "__init__" 486 (.ref 231), DE w "__static_attributes__" 488 (.ref 232), DE w "__doc__" 489 (.none)] 2), #[]⟩) ::
  (272, ⟨.type "type", none, (.cls ⟨"BadStep", [.ref 24], [.ref 272, .ref 24, .type "ValueError", .type "Exception", .type "BaseException", .type "object"], 271, "BadStep", true, [], [], false, none, false⟩), #[some (.ref 256), none, some (.str "BadStep" 517), some (.str "BadStep" 525), some (.builtin "ValueError.__new__"), some (.bool true)]⟩) ::
  (271, ⟨.type "dict", none, (.dict #[DE w "__module__" 524 (.str "keysthroughtext.errors" 187), DE w "__firstlineno__" 528 (.int (57) 527), DE w "__init__" 536 (.ref 269), DE w "__static_attributes__" 538 (.ref 270), DE w "__doc__" 539 (.none)] 2), #[]⟩) ::
  (329, ⟨.type "type", none, (.cls ⟨"NoGuard", [.ref 24], [.ref 329, .ref 24, .type "ValueError", .type "Exception", .type "BaseException", .type "object"], 328, "NoGuard", true, [], [], false, none, false⟩), #[some (.ref 313), none, some (.str "NoGuard" 594), some (.str "NoGuard" 602), some (.builtin "ValueError.__new__"), some (.bool true)]⟩) ::
  (328, ⟨.type "dict", none, (.dict #[DE w "__module__" 601 (.str "keysthroughtext.errors" 187), DE w "__firstlineno__" 605 (.int (70) 604), DE w "__init__" 613 (.ref 326), DE w "__static_attributes__" 615 (.ref 327), DE w "__doc__" 616 (.none)] 2), #[]⟩) ::
  (253, ⟨.type "type", none, (.cls ⟨"NoLabel", [.ref 24], [.ref 253, .ref 24, .type "ValueError", .type "Exception", .type "BaseException", .type "object"], 252, "NoLabel", true, [], [], false, none, false⟩), #[some (.ref 237), none, some (.str "NoLabel" 492), some (.str "NoLabel" 500), some (.builtin "ValueError.__new__"), some (.bool true)]⟩) ::
  (252, ⟨.type "dict", none, (.dict #[DE w "__module__" 499 (.str "keysthroughtext.errors" 187), DE w "__firstlineno__" 503 (.int (53) 502), DE w "__init__" 511 (.ref 250), DE w "__static_attributes__" 513 (.ref 251), DE w "__doc__" 514 (.none)] 2), #[]⟩) ::
  (310, ⟨.type "type", none, (.cls ⟨"TooMuch", [.ref 24], [.ref 310, .ref 24, .type "ValueError", .type "Exception", .type "BaseException", .type "object"], 309, "TooMuch", true, [], [], false, none, false⟩), #[some (.ref 294), none, some (.str "TooMuch" 569), some (.str "TooMuch" 577), some (.builtin "ValueError.__new__"), some (.bool true)]⟩) ::
  (309, ⟨.type "dict", none, (.dict #[DE w "__module__" 576 (.str "keysthroughtext.errors" 187), DE w "__firstlineno__" 580 (.int (66) 579), DE w "__init__" 588 (.ref 307), DE w "__static_attributes__" 590 (.ref 308), DE w "__doc__" 591 (.none)] 2), #[]⟩) ::
  (24, ⟨.type "type", none, (.cls ⟨"KeysError", [.type "ValueError"], [.ref 24, .type "ValueError", .type "Exception", .type "BaseException", .type "object"], 23, "KeysError", true, [], [.ref 44, .ref 63, .ref 82, .ref 101, .ref 120, .ref 139, .ref 158, .ref 177, .ref 196, .ref 215, .ref 234, .ref 253, .ref 272, .ref 291, .ref 310, .ref 329], false, none, false⟩), #[some (.ref 15), none, some (.str "KeysError" 189), some (.str "KeysError" 197), some (.builtin "ValueError.__new__"), some (.bool true)]⟩) ::
  (23, ⟨.type "dict", none, (.dict #[DE w "__module__" 196 (.str "keysthroughtext.errors" 187), DE w "__firstlineno__" 200 (.int (2) 199), DE w "__static_attributes__" 201 (.ref 22), DE w "__weakref__" 203 (.ref 25), DE w "__doc__" 204 (.none)] 3), #[]⟩) ::
  (402, FN (topS 29) "_law_raise_early" "_law_raise_early" "law_keysthroughtext_k98_errors_made" 619 401) ::
  (0, ⟨.type "dict", none, (.dict #[DE w "__name__" 1 (.str "builtins" 160), DE w "__doc__" 2 (.builtin "builtins.__doc__:str#opaque"), DE w "__package__" 3 (.builtin "builtins.__package__:str#opaque"), DE w "__loader__" 4 (.builtin "builtins.__loader__:shared#opaque"), DE w "__spec__" 5 (.builtin "builtins.__spec__#opaque"), DE w "__build_class__" 6 (.builtin "__build_class__"), DE w "__import__" 7 (.builtin "__import__"), DE w "abs" 8 (.builtin "abs"), DE w "all" 9 (.builtin "all"), DE w "any" 10 (.builtin "any"), DE w "ascii" 11 (.builtin "ascii"), DE w "bin" 12 (.builtin "bin"), DE w "breakpoint" 13 (.builtin "breakpoint"), DE w "callable" 14 (.builtin "callable"), DE w "chr" 15 (.builtin "chr"), DE w "compile" 16 (.builtin "compile"), DE w "delattr" 17 (.builtin "delattr"), DE w "dir" 18 (.builtin "dir"), DE w "divmod" 19 (.builtin "divmod"), DE w "eval" 20 (.builtin "eval"), DE w "exec" 21 (.builtin "exec"), DE w "format" 22 (.builtin "format"), DE w "getattr" 23 (.builtin "getattr"), DE w "globals" 24 (.builtin "globals"), DE w "hasattr" 25 (.builtin "hasattr"), DE w "hash" 26 (.builtin "hash"), DE w "hex" 27 (.builtin "hex"), DE w "id" 28 (.builtin "id"), DE w "input" 29 (.builtin "input"), DE w "isinstance" 30 (.builtin "isinstance"), DE w "issubclass" 31 (.builtin "issubclass"), DE w "iter" 32 (.builtin "iter"), DE w "aiter" 33 (.builtin "aiter"), DE w "len" 34 (.builtin "len"), DE w "locals" 35 (.builtin "locals"), DE w "max" 36 (.builtin "max"), DE w "min" 37 (.builtin "min"), DE w "next" 38 (.builtin "next"), DE w "anext" 39 (.builtin "anext"), DE w "oct" 40 (.builtin "oct"), DE w "ord" 41 (.builtin "ord"), DE w "pow" 42 (.builtin "pow"), DE w "print" 43 (.builtin "print"), DE w "repr" 44 (.builtin "repr"), DE w "round" 45 (.builtin "round"), DE w "setattr" 46 (.builtin "setattr"), DE w "sorted" 47 (.builtin "sorted"), DE w "sum" 48 (.builtin "sum"), DE w "vars" 49 (.builtin "vars"), DE w "None" 50 (.none), DE w "Ellipsis" 51 (.ellipsis), DE w "NotImplemented" 52 (.notImplemented), DE w "False" 53 (.bool false), DE w "True" 54 (.bool true), DE w "bool" 55 (.type "bool"), DE w "memoryview" 56 (.type "memoryview"), DE w "bytearray" 57 (.type "bytearray"), DE w "bytes" 58 (.type "bytes"), DE w "classmethod" 59 (.type "classmethod"), DE w "complex" 60 (.type "complex"), DE w "dict" 61 (.type "dict"), DE w "enumerate" 62 (.type "enumerate"), DE w "filter" 63 (.type "filter"), DE w "float" 64 (.type "float"), DE w "frozenset" 65 (.type "frozenset"), DE w "property" 66 (.type "property"), DE w "int" 67 (.type "int"), DE w "list" 68 (.type "list"), DE w "map" 69 (.type "map"), DE w "object" 70 (.type "object"), DE w "range" 71 (.type "range"), DE w "reversed" 72 (.type "reversed"), DE w "set" 73 (.type "set"), DE w "slice" 74 (.type "slice"), DE w "staticmethod" 75 (.type "staticmethod"), DE w "str" 76 (.type "str"), DE w "super" 77 (.type "super"), DE w "tuple" 78 (.type "tuple"), DE w "type" 79 (.type "type"), DE w "zip" 80 (.type "zip"), DE w "__debug__" 81 (.bool true), DE w "BaseException" 82 (.type "BaseException"), DE w "BaseExceptionGroup" 83 (.type "BaseExceptionGroup"), DE w "Exception" 84 (.type "Exception"), DE w "GeneratorExit" 85 (.type "GeneratorExit"), DE w "KeyboardInterrupt" 86 (.type "KeyboardInterrupt"), DE w "SystemExit" 87 (.type "SystemExit"), DE w "ArithmeticError" 88 (.type "ArithmeticError"), DE w "AssertionError" 89 (.type "AssertionError"), DE w "AttributeError" 90 (.type "AttributeError"), DE w "BufferError" 91 (.type "BufferError"), DE w "EOFError" 92 (.type "EOFError"), DE w "ImportError" 93 (.type "ImportError"), DE w "LookupError" 94 (.type "LookupError"), DE w "MemoryError" 95 (.type "MemoryError"), DE w "NameError" 96 (.type "NameError"), DE w "OSError" 97 (.type "OSError"), DE w "ReferenceError" 98 (.type "ReferenceError"), DE w "RuntimeError" 99 (.type "RuntimeError"), DE w "StopAsyncIteration" 100 (.type "StopAsyncIteration"), DE w "StopIteration" 101 (.type "StopIteration"), DE w "SyntaxError" 102 (.type "SyntaxError"), DE w "SystemError" 103 (.type "SystemError"), DE w "TypeError" 104 (.type "TypeError"), DE w "ValueError" 105 (.type "ValueError"), DE w "Warning" 106 (.type "Warning"), DE w "FloatingPointError" 107 (.type "FloatingPointError"), DE w "OverflowError" 108 (.type "OverflowError"), DE w "ZeroDivisionError" 109 (.type "ZeroDivisionError"), DE w "BytesWarning" 110 (.type "BytesWarning"), DE w "DeprecationWarning" 111 (.type "DeprecationWarning"), DE w "EncodingWarning" 112 (.type "EncodingWarning"), DE w "FutureWarning" 113 (.type "FutureWarning"), DE w "ImportWarning" 114 (.type "ImportWarning"), DE w "PendingDeprecationWarning" 115 (.type "PendingDeprecationWarning"), DE w "ResourceWarning" 116 (.type "ResourceWarning"), DE w "RuntimeWarning" 117 (.type "RuntimeWarning"), DE w "SyntaxWarning" 118 (.type "SyntaxWarning"), DE w "UnicodeWarning" 119 (.type "UnicodeWarning"), DE w "UserWarning" 120 (.type "UserWarning"), DE w "BlockingIOError" 121 (.type "BlockingIOError"), DE w "ChildProcessError" 122 (.type "ChildProcessError"), DE w "ConnectionError" 123 (.type "ConnectionError"), DE w "FileExistsError" 124 (.type "FileExistsError"), DE w "FileNotFoundError" 125 (.type "FileNotFoundError"), DE w "InterruptedError" 126 (.type "InterruptedError"), DE w "IsADirectoryError" 127 (.type "IsADirectoryError"), DE w "NotADirectoryError" 128 (.type "NotADirectoryError"), DE w "PermissionError" 129 (.type "PermissionError"), DE w "ProcessLookupError" 130 (.type "ProcessLookupError"), DE w "TimeoutError" 131 (.type "TimeoutError"), DE w "IndentationError" 132 (.type "IndentationError"), DE w "_IncompleteInputError" 133 (.type "_IncompleteInputError"), DE w "IndexError" 134 (.type "IndexError"), DE w "KeyError" 135 (.type "KeyError"), DE w "ModuleNotFoundError" 136 (.type "ModuleNotFoundError"), DE w "NotImplementedError" 137 (.type "NotImplementedError"), DE w "PythonFinalizationError" 138 (.type "PythonFinalizationError"), DE w "RecursionError" 139 (.type "RecursionError"), DE w "UnboundLocalError" 140 (.type "UnboundLocalError"), DE w "UnicodeError" 141 (.type "UnicodeError"), DE w "BrokenPipeError" 142 (.type "BrokenPipeError"), DE w "ConnectionAbortedError" 143 (.type "ConnectionAbortedError"), DE w "ConnectionRefusedError" 144 (.type "ConnectionRefusedError"), DE w "ConnectionResetError" 145 (.type "ConnectionResetError"), DE w "TabError" 146 (.type "TabError"), DE w "UnicodeDecodeError" 147 (.type "UnicodeDecodeError"), DE w "UnicodeEncodeError" 148 (.type "UnicodeEncodeError"), DE w "UnicodeTranslateError" 149 (.type "UnicodeTranslateError"), DE w "ExceptionGroup" 150 (.type "ExceptionGroup"), DE w "EnvironmentError" 151 (.type "OSError"), DE w "IOError" 152 (.type "OSError"), DE w "open" 153 (.builtin "open"), DE w "quit" 154 (.builtin "builtins.quit#opaque"), DE w "exit" 155 (.builtin "builtins.exit#opaque"), DE w "copyright" 156 (.builtin "builtins.copyright#opaque"), DE w "credits" 157 (.builtin "builtins.credits#opaque"), DE w "license" 158 (.builtin "builtins.license#opaque"), DE w "help" 159 (.builtin "builtins.help#opaque")] 159), #[]⟩) ::
  (409, FN (topS 30) "_law_raise_late" "_law_raise_late" "law_keysthroughtext_k98_errors_made" 619 408) ::
  (416, FN (topS 31) "_law_caught" "_law_caught" "law_keysthroughtext_k98_errors_made" 619 415) ::
  (395, FN (topS 28) "_law_classes" "_law_classes" "law_keysthroughtext_k98_errors_made" 619 394) :: KL1 w
def asK : List Addr := [3, 196, 195, 139, 138, 177, 176, 158, 157, 291, 290, 44, 43, 63, 62, 82, 81, 101, 100, 120, 119, 215, 214, 234, 233, 272, 271, 329, 328, 253, 252, 310, 309, 24, 23, 402, 0, 409, 416, 395, 388, 343, 350, 357, 367, 362, 374, 423, 381, 336, 428, 4, 6, 335, 342, 349, 356, 361, 366, 373, 380, 387, 394, 401, 408, 415, 422, 427, 426, 421, 414, 407, 400, 393, 386, 379, 372, 365, 360, 355, 348, 341, 334, 327, 326, 308, 307, 289, 288, 270, 269, 251, 250, 232, 231, 213, 212, 194, 193, 175, 174, 156, 155, 137, 136, 118, 117, 99, 98, 80, 79, 61, 60, 42, 41, 25, 22, 40, 59, 78, 97, 116, 135, 154, 173, 192, 211, 230, 249, 268, 287, 306, 325, 324, 305, 286, 267, 248, 229, 210, 191, 172, 153, 134, 115, 96, 77, 58, 39, 2]
theorem asK_eq (w : World) : asK = (KL w).map (·.1) := by kernel_rfl
def tlK : List Addr := []
abbrev RK : PySem.W.OpenRow := PySem.W.OpenLaw.row PySem.Challenge.rw_keysthroughtext_k98_errors_made
abbrev hkK : PySem.W.Hook := hookL asK KL tlK asK_eq
def obK (s : PySem.W.SharedT) : List (Option Obj) × List (Option Obj) := obL asK tlK s
theorem obK_eq (s : PySem.W.SharedT) : obK s = hkK.obs s.abs := obL_eq s
def looseK : List PySem.Str := (["KeysError", "BadKey", "DoubleKey", "NoKey", "NotText", "TooDeep", "BadOption", "Unwritable", "Unreadable", "Refused", "BadCondition", "BadLabel", "NoLabel", "BadStep", "WrongNumber", "TooMuch", "NoGuard", "_law_source", "_law_more", "_law_draw", "_law_key", "_law_text", "_law_path", "_law_given", "_law_made", "_law_fields", "_law_classes", "_law_raise_early", "_law_raise_late", "_law_caught"] : List PySem.Str) ++ (["_law_like"] : List PySem.Str)
set_option maxHeartbeats 0 in
theorem runK (w : World) : HandSHeadRun.RunEq RK (PySem.W.view RK.prog [33]) hkK obK 20000 looseK w := by
  intro os
  kernel_rfl
theorem fK0 (w : World) : ((fbK (KL w)).take 80).all id = true := by kernel_rfl
theorem fK1 (w : World) : (((fbK (KL w)).drop 80).take 80).all id = true := by kernel_rfl
theorem fK2 (w : World) : ((((fbK (KL w)).drop 80).drop 80).take 80).all id = true := by kernel_rfl
theorem fK3 (w : World) : (((((fbK (KL w)).drop 80).drop 80).drop 80).take 80).all id = true := by kernel_rfl
theorem fK4 (w : World) : ((((((fbK (KL w)).drop 80).drop 80).drop 80).drop 80).take 80).all id = true := by kernel_rfl
theorem fK5 (w : World) : (((((((fbK (KL w)).drop 80).drop 80).drop 80).drop 80).drop 80).take 80).all id = true := by kernel_rfl
theorem fK6 (w : World) : ((((((((fbK (KL w)).drop 80).drop 80).drop 80).drop 80).drop 80).drop 80).take 80).all id = true := by kernel_rfl
theorem fK7 (w : World) : (((((((((fbK (KL w)).drop 80).drop 80).drop 80).drop 80).drop 80).drop 80).drop 80)).all id = true := by kernel_rfl
theorem fK (w : World) : (fbK (KL w)).all id = true := (all_cut 80 (fK0 w) (all_cut 80 (fK1 w) (all_cut 80 (fK2 w) (all_cut 80 (fK3 w) (all_cut 80 (fK4 w) (all_cut 80 (fK5 w) (all_cut 80 (fK6 w) (fK7 w))))))))
theorem nK0 (w : World) : obsF (fnK.take 30) (KL w) = (true, ((fnK.take 30)).map He5.DefA.val) := by kernel_rfl
theorem nK1 (w : World) : obsF (fnK.drop 30) (KL w) = (true, ((fnK.drop 30)).map He5.DefA.val) := by kernel_rfl
theorem nK (w : World) : obsF fnK (KL w) = (true, fnK.map He5.DefA.val) := (fn_cut 30 (nK0 w) (nK1 w))
theorem saysX (w : World) (h : Heap) (e : ∀ a ∈ tlK, h.get? a = some tabObj) : SaysB fbK fnK (KL w) := saysB_lit (fK w) (nK w)
section
open PySem PySem.W PySem.Calls PyProof.Rows
set_option maxRecDepth 100000 in
set_option maxHeartbeats 0 in
noncomputable def finK : PSigma fun P : Prop => P → PySem.Challenge.rw_keysthroughtext_k98_errors_made.Holds := ⟨_, fun F => by
  refine lookK fun said => ?_
  refine HandSHeadRun.head_any (r := OpenLaw.row PySem.Challenge.rw_keysthroughtext_k98_errors_made) (q := view (OpenLaw.row PySem.Challenge.rw_keysthroughtext_k98_errors_made).prog [33]) (H := hkK) (ob := obK) (M := 20000) (loose := looseK) (d := HandSHeadRun.topDef (OpenLaw.row PySem.Challenge.rw_keysthroughtext_k98_errors_made).prog 33) (kwd := []) obK_eq (by kernel_rfl) (fun s => by kernel_rfl) runK (by kernel_rfl) (by kernel_rfl) (by kernel_rfl) (by rfl) (by first | assumption | decide +kernel) (by decide +kernel) ⟨rfl, rfl, rfl, rfl, rfl, by decide +kernel⟩ ?hw ?hc
  case hw => w_witness2
  case hc => exact F⟩
end
end K98
namespace KB
open PySem PySem.Spec PyProof.Rows L2
/-! ### defs of the module, called by name -/
structure Def (K : PySem.W.Frag) (mg : Str → Option Value) (x : Str) (st : Stmt) : Prop where
  ex : ∃ (f : Addr) (fd : FuncData), Fun K x x st f fd ∧ mg x = some (.ref f)
structure Callee (P : Program) (w : World) (K : PySem.W.Frag) (mg : Str → Option Value) (base : Heap) (k : Nat) (x : Str) (ps : List Str) (sp : Sp) : Prop where
  ex : ∃ (f : Addr) (fd : FuncData), mg x = some (.ref f) ∧ PySem.W.keepIn K (.ref f) = true ∧ Binds K fd ps [] ∧ FnOk P w K mg base CX0 k f fd ps sp ∧ ∃ oc od osl, K.lookup f = some ⟨oc, od, .func fd, osl⟩
section
variable {P : Program} {w : World} {K : PySem.W.Frag} {mg : Str → Option Value} {base : Heap}
theorem Def.ok {x : Str} {st : Stmt} {N ps : List Str} {k : Nat} {sp : Sp} (D : Def K mg x st) (S : FnScope N ps (defScope st))
    (hb : ∀ (kV doc pm : Value) (an : Option Addr) (cdv ct : Value) (us : List Value), us.length = ps.length → bindArgs (PySem.W.fnOf x x (defArgs st) (defBody st) (defScope st) .none kV doc pm an cdv ct) ⟨us, []⟩ = pure (ps.zip us))
    (len : ∀ vs H Q E, sp vs H Q E → vs.length = ps.length)
    (hbody : ∀ (f : Addr) (cdv : Value) (A : Around) (outer : List Env) (s : Shared) (H : Hp) (vs : List V) (Q : VK) (E : XK), Room k (A.deeper (envOfC x (defScope st) s.heap.objs.size f cdv)) → sp vs H Q E →
      ∃ t, PSs (cxOf CX0 P w K mg base N x (defScope st) f cdv A outer s H E).nox (defBody st) t ∧ t { nx := fun _ H' => Q .non H', rt := Q } (start N vs) H) : Callee P w K mg base (k + 1) x ps sp := by
  obtain ⟨f, fd, F, g⟩ := D.ex
  have E := F.ex
  obtain ⟨oc, od, kV, doc, pm, an, cdv, ct, osl, e, lk, _⟩ := E
  exact ⟨f, fd, g, F.kp, F.binds hb, F.ok S len (hbody f), oc, od, osl, lk⟩
theorem Callee.mono {x : Str} {ps : List Str} {k : Nat} {sp sp' : Sp} (C : Callee P w K mg base k x ps sp) (h : ∀ vs H Q E, sp' vs H Q E → sp vs H Q E) : Callee P w K mg base k x ps sp' := by
  obtain ⟨f, fd, g, kp, b, F, lk⟩ := C.ex
  exact ⟨f, fd, g, kp, b, ⟨fun vs H Q E q => F.len vs H Q E (h _ _ _ _ q), fun A outer s H as us vs Q E hr e hb r q => F.run A outer s H as us vs Q E hr e hb r (h _ _ _ _ q)⟩, lk⟩
/-- the built-in names that the module leaves alone -/
structure Bi (mg : Str → Option Value) : Prop where
  b_abs : mg "abs" = none
  b_all : mg "all" = none
  b_any : mg "any" = none
  b_bool : mg "bool" = none
  b_enumerate : mg "enumerate" = none
  b_int : mg "int" = none
  b_isinstance : mg "isinstance" = none
  b_len : mg "len" = none
  b_list : mg "list" = none
  b_max : mg "max" = none
  b_min : mg "min" = none
  b_range : mg "range" = none
  b_set : mg "set" = none
  b_sorted : mg "sorted" = none
  b_str : mg "str" = none
  b_tuple : mg "tuple" = none
  b_zip : mg "zip" = none
  b_iter : mg "iter" = none
  b_ValueError : mg "ValueError" = none
  b_sum : mg "sum" = none
  b_dict : mg "dict" = none
end
section
variable {X : Cx}
/-! ### what stands behind a statement, under a name -/
/-! ### rules for more than one kind of value -/
theorem OpR.wk {f : Value → Value → Sem Value} {r r' : R2} (h : OpR X f r) (w : ∀ x y H Q, r' x y H Q → r x y H Q) : OpR X f r' := fun pins s σ H x y v u Q I rx ry q => h pins s σ H x y v u Q I rx ry (w x y H Q q)
theorem CallR.wk {f : Value} {r r' : List V → Hp → VK → Prop} (h : CallR X f r) (w : ∀ xs H Q, r' xs H Q → r xs H Q) : CallR X f r' := fun pins s σ H xs us Q I r1 q => h pins s σ H xs us Q I r1 (w xs H Q q)
theorem CallR.or {f : Value} {r r' : List V → Hp → VK → Prop} (h : CallR X f r) (h' : CallR X f r') : CallR X f (fun xs H Q => r xs H Q ∨ r' xs H Q) := fun pins s σ H xs us Q I r1 q => by
  rcases q with q | q
  · exact h pins s σ H xs us Q I r1 q
  · exact h' pins s σ H xs us Q I r1 q
theorem MtR.wk {id : String} {r r' : V → List V → Hp → VK → Prop} (h : MtR X id r) (w : ∀ x xs H Q, r' x xs H Q → r x xs H Q) : MtR X id r' := fun pins s σ H x xs v us Q I rx r1 q => h pins s σ H x xs v us Q I rx r1 (w x xs H Q q)
theorem IxR.wk {r r' : R2} (h : IxR X r) (w : ∀ x y H Q, r' x y H Q → r x y H Q) : IxR X r' := fun a b pins s σ H x y v u Q I rx ry q => h a b pins s σ H x y v u Q I rx ry (w x y H Q q)
theorem SlR.wk {r r' : V → Option Int → Option Int → Hp → VK → Prop} (h : SlR X r) (w : ∀ x a b H Q, r' x a b H Q → r x a b H Q) : SlR X r' := fun pins s σ H x v vl vu lo hi sl Q I rx hs pl pu q => h pins s σ H x v vl vu lo hi sl Q I rx hs pl pu (w _ _ _ _ _ q)
/-- a + b: ints, texts, two lists -/
def rAd : R2 := fun x y H Q => (∃ i j, x = .int i ∧ y = .int j ∧ Q (.int (i + j)) H) ∨ (∃ i j, x = .str i ∧ y = .str j ∧ i.length + j.length ≤ sizeLine ∧ Q (.str (i ++ j)) H) ∨ rCat x y H Q
theorem ad_any : OpR X (binaryOp .Add) rAd := op_add.or (op_add_str.or op_cat)
def rMl : R2 := fun x y H Q => (∃ i j, x = .int i ∧ y = .int j ∧ (CMul i j ∨ CMulW i j) ∧ Q (.int (i * j)) H) ∨ rRep x y H Q
theorem ml_any : OpR X (binaryOp .Mult) rMl := by
  refine OpR.or (fun pins s σ H x y v u Q I rx ry h => ?_) op_rep
  obtain ⟨i, j, rfl, rfl, c | c, q⟩ := h
  · exact op_mul pins s σ H _ _ v u Q I rx ry ⟨i, j, rfl, rfl, c, q⟩
  · exact op_mulW pins s σ H _ _ v u Q I rx ry ⟨i, j, rfl, rfl, c, q⟩
def rMd : R2 := fun x y H Q => ∃ i j, x = .int i ∧ y = .int j ∧ 0 < j ∧ Q (.int (i % j)) H
theorem md_any : OpR X (binaryOp .Mod) rMd := op_mod
def rFd : R2 := fun x y H Q => ∃ i j, x = .int i ∧ y = .int j ∧ CDivW i j ∧ Q (.int (i / j)) H
theorem fd_any : OpR X (binaryOp .FloorDiv) rFd := op_fdivW
def rIntA : List V → Hp → VK → Prop := fun vs H Q => (∃ i, vs = [.int i] ∧ Q (.int i) H) ∨ (∃ k, vs = [.bl k] ∧ Q (.int (if k then 1 else 0)) H) ∨ (∃ a n, vs = [.str a] ∧ PySem.intText? a = some n ∧ a.length ≤ 640 ∧ Q (.int n) H)
theorem int_any : CallR X (.type "int") rIntA := by
  refine CallR.wk (CallR.or call_int1 call_int_str) fun vs H Q h => ?_
  rcases h with h | h | ⟨a, n, h⟩
  · exact .inl (.inl h)
  · exact .inl (.inr h)
  · exact .inr ⟨a, n, h⟩
def rStrA : List V → Hp → VK → Prop := fun vs H Q => (∃ i, vs = [.int i] ∧ i.natAbs.log2 < 1920 ∧ Q (.str (toString i)) H) ∨ (∃ a, vs = [.str a] ∧ Q (.str a) H)
theorem str_any : CallR X (.type "str") rStrA := CallR.or call_str_int SkE.call_str_str
/-- the name of a value's type, where the value is flat or a tracked list, tuple or dict -/
def TyN (H : Hp) (x : V) (n : String) : Prop := match x with
  | .non => n = "NoneType"
  | .bl _ => n = "bool"
  | .int _ => n = "int"
  | .str _ => n = "str"
  | .ref a => (∃ xs, H a = some (.lst xs) ∧ n = "list") ∨ (∃ xs, H a = some (.tup xs) ∧ n = "tuple") ∨ ∃ kvs, H a = some (.dK kvs) ∧ n = "dict"
  | _ => False
theorem TyN.ty {K : PySem.W.Frag} {H : Hp} {x : V} {n : String} (h : TyN H x n) : TyX K H x (.type n) := by
  unfold TyN at h
  split at h
  · subst h; exact .base .non
  · subst h; exact .base (.bl _)
  · subst h; exact .base (.int _)
  · subst h; exact .base (.str _)
  · rcases h with ⟨xs, e, rfl⟩ | ⟨xs, e, rfl⟩ | ⟨kvs, e, rfl⟩
    · exact .base (.lst e)
    · exact .base (.tup e)
    · exact .base (.dK e)
  · exact h.elim
end
end KB
namespace KB
open PySem PySem.Spec PyProof.Rows L2
section
variable {σ : L2.St} {H : Hp} {Q : VK} {D : L2.Ends}
section
variable {Q : Bool → Hp → Prop} {t u : TT} {te : TE}
end
end
section
variable {x y : V} {H : Hp} {Q : VK}
theorem kb_NoneType_int : kitB "NoneType" "int" = some false := by decide +kernel
theorem kb_NoneType_str : kitB "NoneType" "str" = some false := by decide +kernel
theorem kb_NoneType_bool : kitB "NoneType" "bool" = some false := by decide +kernel
theorem kb_NoneType_list : kitB "NoneType" "list" = some false := by decide +kernel
theorem kb_NoneType_tuple : kitB "NoneType" "tuple" = some false := by decide +kernel
theorem kb_bool_int : kitB "bool" "int" = some true := by decide +kernel
theorem kb_bool_str : kitB "bool" "str" = some false := by decide +kernel
theorem kb_bool_bool : kitB "bool" "bool" = some true := by decide +kernel
theorem kb_bool_list : kitB "bool" "list" = some false := by decide +kernel
theorem kb_bool_tuple : kitB "bool" "tuple" = some false := by decide +kernel
theorem kb_int_int : kitB "int" "int" = some true := by decide +kernel
theorem kb_int_str : kitB "int" "str" = some false := by decide +kernel
theorem kb_int_bool : kitB "int" "bool" = some false := by decide +kernel
theorem kb_int_list : kitB "int" "list" = some false := by decide +kernel
theorem kb_int_tuple : kitB "int" "tuple" = some false := by decide +kernel
theorem kb_str_int : kitB "str" "int" = some false := by decide +kernel
theorem kb_str_str : kitB "str" "str" = some true := by decide +kernel
theorem kb_str_bool : kitB "str" "bool" = some false := by decide +kernel
theorem kb_str_list : kitB "str" "list" = some false := by decide +kernel
theorem kb_str_tuple : kitB "str" "tuple" = some false := by decide +kernel
theorem kb_list_int : kitB "list" "int" = some false := by decide +kernel
theorem kb_list_str : kitB "list" "str" = some false := by decide +kernel
theorem kb_list_bool : kitB "list" "bool" = some false := by decide +kernel
theorem kb_list_list : kitB "list" "list" = some true := by decide +kernel
theorem kb_list_tuple : kitB "list" "tuple" = some false := by decide +kernel
theorem kb_tuple_int : kitB "tuple" "int" = some false := by decide +kernel
theorem kb_tuple_str : kitB "tuple" "str" = some false := by decide +kernel
theorem kb_tuple_bool : kitB "tuple" "bool" = some false := by decide +kernel
theorem kb_tuple_list : kitB "tuple" "list" = some false := by decide +kernel
theorem kb_tuple_tuple : kitB "tuple" "tuple" = some true := by decide +kernel
theorem abs_nat (i : Int) : (if i < 0 then -i else i) = (i.natAbs : Int) := by split <;> omega
end
/-! ### dicts by text keys -/
theorem sizeN {n : Nat} (h : n ≤ 100000) : n < sizeLine := Nat.lt_of_le_of_lt h (by decide)
/-! ### the source of draws -/
def Keep (a : Addr) (H H' : Hp) : Prop := ∀ b o, H b = some o → b ≠ a → H' b = some o
theorem Keep.refl (a : Addr) (H : Hp) : Keep a H H := fun _ _ h _ => h
theorem Keep.trans {a : Addr} {H H1 H2 : Hp} (x : Keep a H H1) (y : Keep a H1 H2) : Keep a H H2 := fun b o h n => y b o (x b o h n) n
theorem Keep.upd {a : Addr} {H : Hp} {o : HO} : Keep a H (upd H a o) := fun b u h n => by rw [upd_ne n]; exact h
theorem Keep.new {a p : Addr} {H : Hp} {o : HO} (h : H p = none) : Keep a H (L2.upd H p o) := fun b u e _ => by rw [upd_ne (ne_of_none e h)]; exact e
/-- an object that was not there at H changes -/
theorem Keep.mut {a d : Addr} {H H1 H2 : Hp} {o : HO} (k1 : Keep a H H1) (n : d ≠ a) (hd : H1 d = none) (k2 : Keep a H H2) : Keep a H (L2.upd H2 d o) := fun b u h nb => by
  have e : b ≠ d := fun e => by
    subst e
    have := k1 _ _ h nb
    rw [hd] at this
    cases this
  rw [upd_ne e]
  exact k2 b u h nb
theorem Keep.free {a : Addr} {H H' : Hp} (k : Keep a H H') {b : Addr} (n : b ≠ a) (h : H' b = none) : H b = none := by
  cases e : H b with
  | none => rfl
  | some o => rw [k b o e n] at h; cases h
/-! ### loops -/
section
variable {σ : L2.St} {H : Hp} {Q : VK} {D : L2.Ends} {g : TG} {tb : TS} {R : It → Hp → Prop}
/-- what a turn of a comprehension is to reach -/
def LcNext (p : Addr) (i : Nat) (G : Nat → List V → Hp → Prop) : VK := fun y H4 => ∃ acc, H4 p = some (.lst acc) ∧ acc.length < sizeLine ∧ ∃ ys, ys.length = i + 1 ∧ upd H4 p (.lst (acc ++ [y])) p = some (.lst ys) ∧ G (i + 1) ys (upd H4 p (.lst (acc ++ [y])))
theorem LcNext.mk {p : Addr} {i : Nat} {G : Nat → List V → Hp → Prop} {y : V} {H4 : Hp} {ys : List V} (h : H4 p = some (.lst ys)) (e : ys.length = i) (hi : i < 100000) (hG : G (i + 1) (ys ++ [y]) (upd H4 p (.lst (ys ++ [y])))) : LcNext p i G y H4 :=
  ⟨ys, h, sizeN (by omega), ys ++ [y], by simp [e], upd_same, hG⟩
end
section
variable {x y : V} {H : Hp} {Q : VK} {K : PySem.W.Frag} {n : Bool}
end
end KB
namespace KB
open PySem PySem.Spec PyProof.Rows L2 TL
/-! ### texts as lists of codes -/
/-- printable signs alone -/
def Pr (z : Str) : Prop := ∀ c ∈ tl z, 32 ≤ c ∧ c < 127
theorem Pr.app {x y : Str} (hx : Pr x) (hy : Pr y) : Pr (x ++ y) := fun c hc => by
  rw [tl_append] at hc
  rcases List.mem_append.mp hc with h | h
  · exact hx c h
  · exact hy c h
theorem pr_one {c : Nat} (h : 32 ≤ c ∧ c < 127) : Pr ⟨#[c]⟩ := fun d hd => by
  have e : d = c := List.mem_singleton.mp hd
  subst e
  exact h
theorem pr_lit {s : String} (h : (s.toList.map Char.toNat).all (fun c => decide (32 ≤ c) && decide (c < 127)) = true) : Pr (Str.ofString s) := fun c hc => by
  rw [tl_ofString] at hc
  have q := List.all_eq_true.mp h c hc
  simpa using q
theorem lit_at {z : Str} {n : Nat} (hn : (tl z).length = n) (h : (tl z).all (fun c => decide (32 ≤ c) && decide (c < 127)) = true) {r : Int} (r0 : 0 ≤ r) (r1 : r < n) : ∃ c, atI z.cps.toList r = some c ∧ 32 ≤ c ∧ c < 127 := by
  obtain ⟨j, rfl⟩ := Int.eq_ofNat_of_zero_le r0
  have hj : j < (tl z).length := by omega
  have q := List.all_eq_true.mp h (tl z)[j] (List.getElem_mem hj)
  simp only [Bool.and_eq_true, decide_eq_true_eq] at q
  exact ⟨(tl z)[j], atI_nat (List.getElem?_eq_getElem hj), q.1, q.2⟩
theorem lit_ex {z : Str} {n : Nat} {R : Nat → Prop} {r : Int} (hn : (tl z).length = n) (h : (tl z).all (fun c => decide (32 ≤ c) && decide (c < 127)) = true) (r0 : 0 ≤ r) (r1 : r < n) (k : ∀ c, 32 ≤ c → c < 127 → R c) : ∃ c, atI z.cps.toList r = some c ∧ R c := by
  obtain ⟨c, e, h1, h2⟩ := lit_at hn h r0 r1
  exact ⟨c, e, k c h1 h2⟩
theorem join_tl (a : Str) (zs : List Str) : tl (Txt.join a zs) = joinL (tl a) (zs.map tl) := by
  rw [join_eq, tl_join]
theorem joinL_nil : ∀ ls : List (List Nat), joinL [] ls = ls.flatten
  | [] => rfl
  | [p] => by simp [joinL]
  | p :: q :: r => by
    show p ++ ([] ++ joinL [] (q :: r)) = _
    rw [joinL_nil (q :: r)]
    simp
theorem join0 (zs : List Str) : tl (Txt.join (Str.ofString "") zs) = (zs.map tl).flatten := by
  rw [join_tl, show tl (Str.ofString "") = [] from by rw [tl_ofString]; rfl, joinL_nil]
theorem join_pr {zs : List Str} (h : ∀ z ∈ zs, Pr z) : Pr (Txt.join (Str.ofString "") zs) := fun c hc => by
  rw [join0] at hc
  obtain ⟨l, hl, h1⟩ := List.mem_flatten.mp hc
  obtain ⟨z, hz, rfl⟩ := List.mem_map.mp hl
  exact h z hz c h1
theorem join_len (zs : List Str) : (Txt.join (Str.ofString "") zs).length = (zs.map (·.length)).sum := by
  rw [len_tl, join0, List.length_flatten, List.map_map]
  refine congrArg List.sum ?_
  exact List.map_congr_left fun z _ => (len_tl z).symm
theorem len_ones {zs : List Str} (h : ∀ z ∈ zs, z.length = 1) : (zs.map (·.length)).sum = zs.length := by
  induction zs with
  | nil => rfl
  | cons z r ih =>
    rw [List.map_cons, List.sum_cons, h z (List.mem_cons_self ..), ih fun z hz => h z (List.mem_cons_of_mem _ hz), List.length_cons]
    omega
theorem tl_neg (n : Nat) (h : 0 < n) : tl (Str.ofString (toString (-(n : Int)))) = 45 :: numL n := by
  obtain ⟨m, rfl⟩ : ∃ m, n = m + 1 := ⟨n - 1, by omega⟩
  have e : toString (-((m + 1 : Nat) : Int)) = "-" ++ toString ((m + 1 : Nat) : Int) := rfl
  rw [e, tl_ofString, String.toList_append, List.map_append]
  rw [show List.map Char.toNat (toString ((m + 1 : Nat) : Int)).toList = numL (m + 1) from (tl_ofString _).symm.trans (tl_num (m + 1))]
  rfl
/-- the codes of str(n) -/
def intL (n : Int) : List Nat := if n < 0 then 45 :: numL n.natAbs else numL n.natAbs
theorem tl_int (n : Int) : tl (Str.ofString (toString n)) = intL n := by
  unfold intL
  split
  · have e : n = -((n.natAbs : Nat) : Int) := by omega
    have h := tl_neg n.natAbs (by omega)
    rw [← e] at h
    exact h
  · have e : n = ((n.natAbs : Nat) : Int) := by omega
    have h := tl_num n.natAbs
    rw [← e] at h
    exact h
theorem intL_sign {n : Int} {c : Nat} (h : c ∈ intL n) : c = 45 ∨ (48 ≤ c ∧ c ≤ 57) := by
  unfold intL at h
  split at h
  · rcases List.mem_cons.mp h with h | h
    · exact .inl h
    · exact .inr (numL_digits _ c h)
  · exact .inr (numL_digits _ c h)
theorem pr_int (n : Int) : Pr (Str.ofString (toString n)) := fun c hc => by
  rw [tl_int] at hc
  have h := intL_sign hc
  omega
theorem len_int {n : Int} {k : Nat} (hk : 0 < k) (h : n.natAbs < 10 ^ k) : (Str.ofString (toString n)).length ≤ k + 1 := by
  rw [len_tl, tl_int]
  have e := numL_len hk h
  unfold intL
  split
  · rw [List.length_cons]; omega
  · omega
theorem log_int {n : Int} (h : n.natAbs < 10 ^ 30) : n.natAbs.log2 < 1920 := by
  by_cases h0 : n.natAbs = 0
  · rw [h0]; decide
  · exact (Nat.log2_lt h0).mpr (Nat.lt_trans h (by decide +kernel))
/-! ### numbers read from digits -/
theorem digitsVal_snoc (l : List Nat) (c : Nat) : NumText.digitsVal (l ++ [c]) = NumText.digitsVal l * 10 + (c - 48) := by
  unfold NumText.digitsVal
  rw [List.foldl_append]
  rfl
theorem rev_ind {α : Type} {p : List α → Prop} (h0 : p []) (h1 : ∀ l a, p l → p (l ++ [a])) (l : List α) : p l := by
  rw [← List.reverse_reverse l]
  induction l.reverse with
  | nil => exact h0
  | cons a r ih => rw [List.reverse_cons]; exact h1 _ _ ih
theorem digitsVal_lt (l : List Nat) : NumText.AllDigits l → NumText.digitsVal l < 10 ^ l.length := by
  refine rev_ind (p := fun l => NumText.AllDigits l → NumText.digitsVal l < 10 ^ l.length) (fun _ => by decide) (fun r c ih hd => ?_) l
  have hc := hd c (by simp)
  have h1 := ih fun d h => hd d (List.mem_append_left _ h)
  rw [digitsVal_snoc, List.length_append, List.length_singleton, Nat.pow_succ]
  omega
theorem digits30 {l : List Nat} (hd : NumText.AllDigits l) (h : l.length ≤ 30) : NumText.digitsVal l < 10 ^ 30 := Nat.lt_of_lt_of_le (digitsVal_lt l hd) (Nat.pow_le_pow_right (by decide) h)
theorem digits_pos (l : List Nat) : NumText.AllDigits l → l ≠ [] → l.head? ≠ some 48 → 0 < NumText.digitsVal l := by
  refine rev_ind (p := fun l => NumText.AllDigits l → l ≠ [] → l.head? ≠ some 48 → 0 < NumText.digitsVal l) (fun _ h _ => absurd rfl h) (fun r c ih hd _ hh => ?_) l
  rw [digitsVal_snoc]
  have hc := hd c (by simp)
  cases r with
  | nil =>
    have : c ≠ 48 := fun e => hh (by simp [e])
    omega
  | cons x r =>
    have := ih (fun d h => hd d (List.mem_append_left _ h)) (by simp) (by simpa using hh)
    omega
theorem numL_back (l : List Nat) : NumText.AllDigits l → l ≠ [] → (l = [48] ∨ l.head? ≠ some 48) → numL (NumText.digitsVal l) = l := by
  refine rev_ind (p := fun l => NumText.AllDigits l → l ≠ [] → (l = [48] ∨ l.head? ≠ some 48) → numL (NumText.digitsVal l) = l) (fun _ h _ => absurd rfl h) (fun r c ih hd _ hh => ?_) l
  have hc := hd c (by simp)
  have hr : NumText.AllDigits r := fun d h => hd d (List.mem_append_left _ h)
  rw [digitsVal_snoc]
  cases r with
  | nil =>
    rw [show NumText.digitsVal [] * 10 + (c - 48) = c - 48 by simp [NumText.digitsVal]]
    rw [numL_lt (by omega)]
    simp
    omega
  | cons x r =>
    have hx : (x :: r).head? ≠ some 48 := by
      rcases hh with hh | hh
      · have := congrArg List.length hh
        simp at this
      · simpa using hh
    have hp := digits_pos (x :: r) hr (by simp) hx
    rw [numL_step (by omega)]
    rw [show (NumText.digitsVal (x :: r) * 10 + (c - 48)) / 10 = NumText.digitsVal (x :: r) by omega, show (NumText.digitsVal (x :: r) * 10 + (c - 48)) % 10 = c - 48 by omega, ih hr (by simp) (.inr hx)]
    congr 2
    omega
/-! ### digit keys -/
def isDg (c : Nat) : Bool := decide (48 ≤ c) && decide (c ≤ 57)
/-- what stands behind a minus sign, or the whole -/
def body (l : List Nat) : List Nat := if l.head? = some 45 then l.tail else l
def digK (l : List Nat) : Bool := decide (body l ≠ []) && decide ((body l).length ≤ 30) && (body l).all isDg && (decide (l = [48]) || decide ((body l).head? ≠ some 48))
theorem digK_int {z : Str} (h : digK (tl z) = true) : ∃ n, PySem.intText? z = some n ∧ Str.ofString (toString n) = z ∧ z.length ≤ 31 ∧ n.natAbs < 10 ^ 30 := by
  unfold digK at h
  simp only [Bool.and_eq_true, decide_eq_true_eq, Bool.or_eq_true] at h
  obtain ⟨⟨⟨h1, h2⟩, h3⟩, h4⟩ := h
  have hd : NumText.AllDigits (body (tl z)) := fun c hc => by
    have q := List.all_eq_true.mp h3 c hc
    simpa [isDg] using q
  by_cases hm : (tl z).head? = some 45
  · obtain ⟨r, er⟩ : ∃ r, tl z = 45 :: r := by
      cases e : tl z with
      | nil => rw [e] at hm; cases hm
      | cons x r => rw [e] at hm; cases hm; exact ⟨r, rfl⟩
    have eb : body (tl z) = r := by unfold body; rw [if_pos hm, er]; rfl
    rw [eb] at h1 h2 hd h4
    have h0 : r.head? ≠ some 48 := by
      rcases h4 with h4 | h4
      · rw [er] at h4; cases h4
      · exact h4
    have hp := digits_pos r hd h1 h0
    have hl : z.length ≤ 31 := by rw [len_tl, er, List.length_cons]; omega
    refine ⟨-((NumText.digitsVal r : Nat) : Int), intText_neg er hd h1 (by omega), ext_tl ?_, hl, by have := digits30 hd h2; omega⟩
    rw [tl_neg _ hp, er, numL_back r hd h1 (.inr h0)]
  · have eb : body (tl z) = tl z := by unfold body; rw [if_neg hm]
    rw [eb] at h1 h2 hd h4
    have hl : z.length ≤ 31 := by rw [len_tl]; omega
    refine ⟨((NumText.digitsVal (tl z) : Nat) : Int), intText_digits hd h1 (by omega), ext_tl ?_, hl, by have := digits30 hd h2; omega⟩
    rw [tl_num, numL_back _ hd h1 h4]
theorem uni_dig : ∀ c : Nat, c < 127 → Unicode.isDigit c = isDg c := by decide +kernel
theorem isdigit_pr {z : Str} (h : ∀ c ∈ tl z, 32 ≤ c ∧ c < 127) : Txt.isdigit z = (decide (tl z ≠ []) && (tl z).all isDg) := by
  have e1 : (decide (z.length > 0)) = decide (tl z ≠ []) := by
    rw [len_tl]
    cases tl z <;> simp
  have e2 : z.cps.all Unicode.isDigit = (tl z).all isDg := by
    rw [← Array.all_toList]
    rw [Bool.eq_iff_iff, List.all_eq_true, List.all_eq_true]
    exact ⟨fun q c hc => by rw [← uni_dig c (h c hc).2]; exact q c hc, fun q c hc => by rw [uni_dig c (h c hc).2]; exact q c hc⟩
  unfold Txt.isdigit
  rw [e1, e2]
end KB
namespace KB
open PySem PySem.Spec PyProof.Rows L2 TL
/-! ### raw values -/
inductive Raw where
  | non
  | bl (b : Bool)
  | int (n : Int)
  | str (z : Str)
  | row (rs : List Raw)
  | tab (zs : List Str) (rs : List Raw)
mutual
def Rp (H : Hp) : Raw → V → Prop
  | .non, v => v = .non
  | .bl b, v => v = .bl b
  | .int n, v => v = .int n
  | .str z, v => v = .str z
  | .row rs, v => ∃ t l vs, v = .ref t ∧ H t = some (.tup [.str "row", .ref l]) ∧ H l = some (.lst vs) ∧ RpL H rs vs
  | .tab zs rs, v => ∃ t l vs, v = .ref t ∧ H t = some (.tup [.str "table", .ref l]) ∧ H l = some (.lst vs) ∧ RpP H rs zs vs
def RpL (H : Hp) : List Raw → List V → Prop
  | [], vs => vs = []
  | r :: rs, vs => ∃ v ws, vs = v :: ws ∧ Rp H r v ∧ RpL H rs ws
def RpP (H : Hp) : List Raw → List Str → List V → Prop
  | [], zs, vs => zs = [] ∧ vs = []
  | r :: rs, zs, vs => ∃ z ys t v ws, zs = z :: ys ∧ vs = .ref t :: ws ∧ H t = some (.tup [.str z, v]) ∧ Rp H r v ∧ RpP H rs ys ws
end
mutual
theorem Rp.mono {H H' : Hp} (s : Same H H') : ∀ (r : Raw) (v : V), Rp H r v → Rp H' r v
  | .non, _, h => h
  | .bl _, _, h => h
  | .int _, _, h => h
  | .str _, _, h => h
  | .row rs, v, h => by
    obtain ⟨t, l, vs, e, h1, h2, h3⟩ := h
    exact ⟨t, l, vs, e, s _ _ h1, s _ _ h2, RpL.mono s rs vs h3⟩
  | .tab zs rs, v, h => by
    obtain ⟨t, l, vs, e, h1, h2, h3⟩ := h
    exact ⟨t, l, vs, e, s _ _ h1, s _ _ h2, RpP.mono s rs zs vs h3⟩
theorem RpL.mono {H H' : Hp} (s : Same H H') : ∀ (rs : List Raw) (vs : List V), RpL H rs vs → RpL H' rs vs
  | [], _, h => h
  | r :: rs, _, h => by
    obtain ⟨v, ws, e, h1, h2⟩ := h
    exact ⟨v, ws, e, Rp.mono s r v h1, RpL.mono s rs ws h2⟩
theorem RpP.mono {H H' : Hp} (s : Same H H') : ∀ (rs : List Raw) (zs : List Str) (vs : List V), RpP H rs zs vs → RpP H' rs zs vs
  | [], _, _, h => h
  | r :: rs, _, _, h => by
    obtain ⟨z, ys, t, v, ws, e1, e2, h0, h1, h2⟩ := h
    exact ⟨z, ys, t, v, ws, e1, e2, s _ _ h0, Rp.mono s r v h1, RpP.mono s rs ys ws h2⟩
end
mutual
def depth : Raw → Nat
  | .row rs => 1 + depthL rs
  | .tab _ rs => 1 + depthL rs
  | _ => 0
def depthL : List Raw → Nat
  | [] => 0
  | r :: rs => max (depth r) (depthL rs)
end
mutual
def OkR : Raw → Prop
  | .non => True
  | .bl _ => True
  | .int n => n.natAbs < 10 ^ 30
  | .str z => Pr z ∧ z.length ≤ 300
  | .row rs => OkL rs
  | .tab zs rs => OkL rs ∧ zs.length = rs.length ∧ ∀ z ∈ zs, Pr z ∧ z.length ≤ 300
def OkL : List Raw → Prop
  | [] => True
  | r :: rs => OkR r ∧ OkL rs
end
theorem RpL.len {H : Hp} : ∀ {rs : List Raw} {vs : List V}, RpL H rs vs → vs.length = rs.length
  | [], _, h => by cases h; rfl
  | r :: rs, _, h => by
    obtain ⟨v, ws, rfl, h1, h2⟩ := h
    rw [List.length_cons, List.length_cons, h2.len]
theorem RpP.len {H : Hp} : ∀ {rs : List Raw} {zs : List Str} {vs : List V}, RpP H rs zs vs → vs.length = rs.length ∧ zs.length = rs.length
  | [], _, _, h => by obtain ⟨rfl, rfl⟩ := h; exact ⟨rfl, rfl⟩
  | r :: rs, _, _, h => by
    obtain ⟨z, ys, t, v, ws, rfl, rfl, h0, h1, h2⟩ := h
    have := h2.len
    simp only [List.length_cons]
    omega
theorem RpL.get {H : Hp} : ∀ {rs : List Raw} {vs : List V} {i : Nat} {v : V}, RpL H rs vs → vs[i]? = some v → ∃ r, rs[i]? = some r ∧ Rp H r v
  | [], _, i, v, h, e => by cases h; simp at e
  | q :: rs, _, i, v, h, e => by
    obtain ⟨w, ws, rfl, h2, h3⟩ := h
    cases i with
    | zero => cases e; exact ⟨q, rfl, h2⟩
    | succ i => exact RpL.get (i := i) h3 (by simpa using e)
theorem RpP.get {H : Hp} : ∀ {rs : List Raw} {zs : List Str} {vs : List V} {i : Nat} {v : V}, RpP H rs zs vs → vs[i]? = some v → ∃ r z t u, rs[i]? = some r ∧ zs[i]? = some z ∧ v = .ref t ∧ H t = some (.tup [.str z, u]) ∧ Rp H r u
  | [], _, _, i, v, h, e => by obtain ⟨rfl, rfl⟩ := h; simp at e
  | q :: rs, _, _, i, v, h, e => by
    obtain ⟨y, ys, t, w, ws, rfl, rfl, h3, h4, h5⟩ := h
    cases i with
    | zero => cases e; exact ⟨q, y, t, w, rfl, rfl, rfl, h3, h4⟩
    | succ i => exact RpP.get (i := i) h5 (by simpa using e)
theorem OkL.get : ∀ {rs : List Raw} {i : Nat} {r : Raw}, OkL rs → rs[i]? = some r → OkR r
  | [], i, r, _, e => by simp at e
  | q :: rs, i, r, h, e => by
    cases i with
    | zero => cases e; exact h.1
    | succ i => exact OkL.get (i := i) h.2 (by simpa using e)
/-! ### parts of heaps -/
/-- what is new in the second one -/
def new (H H' : Hp) : Hp := fun b => if (H b).isSome then none else H' b
/-! ### a list of flat things compared with [] -/
theorem pr_strOk {z : Str} (h : Pr z) : PyData.strOk z = true := by
  unfold PyData.strOk
  rw [← Array.all_toList, List.all_eq_true]
  intro c hc
  have := (h c hc).2
  exact decide_eq_true (by omega)
/-! ### Keep and raw values -/
/-! ### a list at d grows by new raw values -/
/-! ### the same, where nothing that stood changes -/
end KB
namespace KB
open PySem PySem.Spec PyProof.Rows L2 TL
/-! ### the texts of raw values -/
def escC (c : Nat) : List Nat := if c = 34 ∨ c = 92 then [92, c] else [c]
def esc (l : List Nat) : List Nat := l.flatMap escC
def strL (l : List Nat) : List Nat := 34 :: (esc l ++ [34])
mutual
def rend : Raw → List Nat
  | .non => [110, 117, 108, 108]
  | .bl true => [116, 114, 117, 101]
  | .bl false => [102, 97, 108, 115, 101]
  | .int n => intL n
  | .str z => strL (tl z)
  | .row rs => 91 :: (joinL [44] (rendL rs) ++ [93])
  | .tab zs rs => 123 :: (joinL [44] (rendP rs zs) ++ [125])
def rendL : List Raw → List (List Nat)
  | [] => []
  | r :: rs => rend r :: rendL rs
def rendP : List Raw → List Str → List (List Nat)
  | [], _ => []
  | r :: rs, zs => (strL (tl (zs.headD Str.empty)) ++ 58 :: rend r) :: rendP rs zs.tail
end
/-! ### replace -/
/-! ### tokens -/
mutual
def toks : Raw → List (List Nat)
  | .row rs => [91] :: (tokL rs ++ [[93]])
  | .tab zs rs => [123] :: (tokP rs zs ++ [[125]])
  | .non => [rend .non]
  | .bl b => [rend (.bl b)]
  | .int n => [rend (.int n)]
  | .str z => [rend (.str z)]
def tokL : List Raw → List (List Nat)
  | [] => []
  | r :: rs => toks r ++ tokL' rs
def tokL' : List Raw → List (List Nat)
  | [] => []
  | r :: rs => [44] :: (toks r ++ tokL' rs)
def tokP : List Raw → List Str → List (List Nat)
  | [], _ => []
  | r :: rs, zs => strL (tl (zs.headD Str.empty)) :: [58] :: (toks r ++ tokP' rs zs.tail)
def tokP' : List Raw → List Str → List (List Nat)
  | [], _ => []
  | r :: rs, zs => [44] :: strL (tl (zs.headD Str.empty)) :: [58] :: (toks r ++ tokP' rs zs.tail)
end
end KB
namespace KB
open PySem PySem.Spec PyProof.Rows L2 TL
/-! ### the class Table as the top has made it -/
structure TabC (K : PySem.W.Frag) (mg : Str → Option Value) (C : Addr) : Prop where
  cl : Cls K C
  nH : NoAttr K C "held"
  mgC : mg "Table" = some (.ref C)
  kC : PySem.W.keepIn K (.ref C) = true
  mak : PySem.W.makesIn K C = true
  ha : PySem.W.findIn K (.ref C) "__class__" = some (some (.builtin "object.__class__"))
  hn : PySem.W.specialIn K (.builtin "object.__class__") "__get__" = some (some (.builtin "getset_descriptor.__get__"))
  ht : PySem.W.takesIn K (.builtin "object.__class__") = some true
  hm : PySem.W.mroIn K C (.type "object") = some true
  own : PySem.W.kitOne K (.ref C) (.ref C) = some true
  c_non : PySem.W.kitOne K (.type "NoneType") (.ref C) = some false
  c_bool : PySem.W.kitOne K (.type "bool") (.ref C) = some false
  c_int : PySem.W.kitOne K (.type "int") (.ref C) = some false
  c_str : PySem.W.kitOne K (.type "str") (.ref C) = some false
  c_list : PySem.W.kitOne K (.type "list") (.ref C) = some false
  c_tuple : PySem.W.kitOne K (.type "tuple") (.ref C) = some false
  c_dict : PySem.W.kitOne K (.type "dict") (.ref C) = some false
  t_int : PySem.W.kitOne K (.ref C) (.type "int") = some false
  t_bool : PySem.W.kitOne K (.ref C) (.type "bool") = some false
  t_str : PySem.W.kitOne K (.ref C) (.type "str") = some false
  t_list : PySem.W.kitOne K (.ref C) (.type "list") = some false
  t_tuple : PySem.W.kitOne K (.ref C) (.type "tuple") = some false
theorem TabC.non {K : PySem.W.Frag} {mg : Str → Option Value} {C : Addr} (T : TabC K mg C) {H : Hp} {x : V} {n : String} (h : TyN H x n) : PySem.W.kitOne K (.type n) (.ref C) = some false := by
  unfold TyN at h
  split at h
  · subst h; exact T.c_non
  · subst h; exact T.c_bool
  · subst h; exact T.c_int
  · subst h; exact T.c_str
  · rcases h with ⟨_, _, rfl⟩ | ⟨_, _, rfl⟩ | ⟨_, _, rfl⟩
    · exact T.c_list
    · exact T.c_tuple
    · exact T.c_dict
  · exact h.elim
theorem TyN.one {H : Hp} {x : V} {m n : String} (h : TyN H x m) (g : TyN H x n) : m = n := by
  unfold TyN at h g
  split at h
  · subst h; subst g; rfl
  · subst h; subst g; rfl
  · subst h; subst g; rfl
  · subst h; subst g; rfl
  · rcases h with ⟨_, e, rfl⟩ | ⟨_, e, rfl⟩ | ⟨_, e, rfl⟩ <;> rcases g with ⟨_, e', rfl⟩ | ⟨_, e', rfl⟩ | ⟨_, e', rfl⟩ <;> first | rfl | (rw [e] at e'; cases e')
  · exact h.elim
def isBT (T : String) : Bool := T == "int" || T == "bool" || T == "str" || T == "list" || T == "tuple"
theorem isBT_mem {T : String} (h : isBT T = true) : T = "int" ∨ T = "bool" ∨ T = "str" ∨ T = "list" ∨ T = "tuple" := by
  unfold isBT at h
  simp only [Bool.or_eq_true, beq_iff_eq] at h
  rcases h with (((h | h) | h) | h) | h <;> simp [h]
/-- what isinstance says of a value and a class: a built-in one or Table -/
inductive IsT (C : Addr) (H : Hp) : V → V → Bool → Prop where
  | ty {x : V} {n T : String} {b : Bool} (h : TyN H x n) (k : kitB n T = some b) : IsT C H x (.ty T) b
  | tab {a dx : Addr} {fs : List (Str × V)} {T : String} (h : H a = some (.ins C dx fs)) (k : isBT T = true) : IsT C H (.ref a) (.ty T) false
  | no {x : V} {n : String} (h : TyN H x n) : IsT C H x (.ref C) false
  | own {a dx : Addr} {fs : List (Str × V)} (h : H a = some (.ins C dx fs)) : IsT C H (.ref a) (.ref C) true
theorem IsT.rule {K : PySem.W.Frag} {mg : Str → Option Value} {C : Addr} (T : TabC K mg C) {H : Hp} {x c : V} {b : Bool} (h : IsT C H x c b) : ∃ t u, ClsV c u ∧ TyX K H x t ∧ PySem.W.kitOne K t u = some b := by
  cases h with
  | ty h k => exact ⟨_, _, .ty _, h.ty, kit_ty k⟩
  | tab h k =>
    refine ⟨_, _, .ty _, .base (.ins h T.cl T.ha T.hn T.ht T.hm), ?_⟩
    rcases isBT_mem k with rfl | rfl | rfl | rfl | rfl
    · exact T.t_int
    · exact T.t_bool
    · exact T.t_str
    · exact T.t_list
    · exact T.t_tuple
  | no h => exact ⟨_, _, .own C, h.ty, T.non h⟩
  | own h => exact ⟨_, _, .own C, .base (.ins h T.cl T.ha T.hn T.ht T.hm), T.own⟩
section
variable {X : Cx} {C : Addr}
end
/-! ### the readings -/
section
variable {C a D : Addr} {H : Hp} {Q : VK} {T : String} {b : Bool} {x c : V}
end
end KB
namespace KB
open PySem PySem.Spec PyProof.Rows L2 TL
/-! ### values of the program -/
inductive Val where
  | non
  | bl (b : Bool)
  | int (n : Int)
  | str (z : Str)
  | lst (vs : List Val)
  | tup (vs : List Val)
  | tab (ks : List Key) (vs : List Val)
mutual
def RpV (C : Addr) (H : Hp) : Val → V → Prop
  | .non, v => v = .non
  | .bl b, v => v = .bl b
  | .int n, v => v = .int n
  | .str z, v => v = .str z
  | .lst vs, v => ∃ a ws, v = .ref a ∧ H a = some (.lst ws) ∧ RpVL C H vs ws
  | .tup vs, v => ∃ a ws, v = .ref a ∧ H a = some (.tup ws) ∧ RpVL C H vs ws
  | .tab ks vs, v => ∃ a dx d ws, v = .ref a ∧ H a = some (.ins C dx [("held", .ref d)]) ∧ H d = some (.dK (ks.zip ws)) ∧ ks.Nodup ∧ ks.length = vs.length ∧ RpVL C H vs ws
def RpVL (C : Addr) (H : Hp) : List Val → List V → Prop
  | [], ws => ws = []
  | v :: vs, ws => ∃ w us, ws = w :: us ∧ RpV C H v w ∧ RpVL C H vs us
end
section
variable {C : Addr} {H H' : Hp}
mutual
theorem RpV.mono (s : Same H H') : ∀ (x : Val) (v : V), RpV C H x v → RpV C H' x v
  | .non, _, h => h
  | .bl _, _, h => h
  | .int _, _, h => h
  | .str _, _, h => h
  | .lst vs, v, h => by
    obtain ⟨a, ws, e, h1, h2⟩ := h
    exact ⟨a, ws, e, s _ _ h1, RpVL.mono s vs ws h2⟩
  | .tup vs, v, h => by
    obtain ⟨a, ws, e, h1, h2⟩ := h
    exact ⟨a, ws, e, s _ _ h1, RpVL.mono s vs ws h2⟩
  | .tab ks vs, v, h => by
    obtain ⟨a, dx, d, ws, e, h1, h2, h3, h4, h5⟩ := h
    exact ⟨a, dx, d, ws, e, s _ _ h1, s _ _ h2, h3, h4, RpVL.mono s vs ws h5⟩
theorem RpVL.mono (s : Same H H') : ∀ (vs : List Val) (ws : List V), RpVL C H vs ws → RpVL C H' vs ws
  | [], _, h => h
  | v :: vs, _, h => by
    obtain ⟨w, us, e, h1, h2⟩ := h
    exact ⟨w, us, e, RpV.mono s v w h1, RpVL.mono s vs us h2⟩
end
theorem RpVL.len : ∀ {vs : List Val} {ws : List V}, RpVL C H vs ws → ws.length = vs.length
  | [], _, h => by cases h; rfl
  | v :: vs, _, h => by
    obtain ⟨w, us, rfl, h1, h2⟩ := h
    rw [List.length_cons, List.length_cons, h2.len]
theorem RpVL.get : ∀ {vs : List Val} {ws : List V} {i : Nat} {w : V}, RpVL C H vs ws → ws[i]? = some w → ∃ v, vs[i]? = some v ∧ RpV C H v w
  | [], _, i, w, h, e => by cases h; simp at e
  | x :: vs, _, i, w, h, e => by
    obtain ⟨y, us, rfl, h2, h3⟩ := h
    cases i with
    | zero => cases e; exact ⟨x, rfl, h2⟩
    | succ i => exact RpVL.get (i := i) h3 (by simpa using e)
end
mutual
def vparts : Val → Nat
  | .lst vs => 1 + vpartsL vs
  | .tup vs => 1 + vpartsL vs
  | .tab _ vs => 1 + vpartsL vs
  | _ => 1
def vpartsL : List Val → Nat
  | [] => 0
  | v :: vs => vparts v + vpartsL vs
end
mutual
def vdepth : Val → Nat
  | .lst vs => 1 + vdepthL vs
  | .tup vs => 1 + vdepthL vs
  | .tab _ vs => 1 + vdepthL vs
  | _ => 0
def vdepthL : List Val → Nat
  | [] => 0
  | v :: vs => max (vdepth v) (vdepthL vs)
end
/-! ### a part of the heap, and what is new -/
section
variable {σ : L2.St} {H : Hp} {Q : VK} {D : L2.Ends} {K : PySem.W.Frag}
end
/-! ### a class called, a method called -/
structure NewC (P : Program) (w : World) (K : PySem.W.Frag) (mg : Str → Option Value) (base : Heap) (k : Nat) (x : Str) (C : Addr) (sp : Sp) : Prop where
  ex : ∃ (f : Addr) (fd : FuncData) (ps : List Str) (spI : Sp), Mk K C f ∧ mg x = some (.ref C) ∧ Binds K fd ps [] ∧ FnOk P w K mg base CX0 k f fd ps spI ∧
    ∀ vs H Q, sp vs H Q E0 → ∀ a dx, H a = none → H dx = none → dx ≠ a → spI (.ref a :: vs) (upd (upd H dx (.own a)) a (.ins C dx [])) (fun v H2 => v = .non ∧ Q (.ref a) H2) E0
/-- a method by its class -/
structure MthC (P : Program) (w : World) (K : PySem.W.Frag) (mg : Str → Option Value) (base : Heap) (k : Nat) (C : Addr) (m : Str) (ps : List Str) (sp : Sp) : Prop where
  ex : ∃ (f : Addr) (fd : FuncData), Meth K C m f ∧ Binds K fd ps [] ∧ FnOk P w K mg base CX0 k f fd ps sp
/-- a def of a class, as the top has made it (defaults: dvs) -/
structure DefM (K : PySem.W.Frag) (C : Addr) (m qual : Str) (st : Stmt) (dvs : List V) : Prop where
  ex : ∃ (f : Addr) (fd : FuncData), FunD K m qual (defArgs st) (defBody st) (defScope st) dvs [] f fd ∧ PySem.W.findIn K (.ref C) m = some (some (.ref f)) ∧ PySem.W.isFn K (.ref f) = true
section
variable {X : Cx} {k : Nat} {x : Str} {C : Addr} {sp : Sp} {p pos : Pos} {e : Expr} {es : List Expr} {t : TA}
theorem PE.wk {e : Expr} {t t' : TE} (h : PE X e t) (w : ∀ σ H Q, t' σ H Q → t σ H Q) : PE X e t' := ⟨fun pins s σ H Q I q => h.run pins s σ H Q I (w _ _ _ q)⟩
end
/-! ### for over a list or a tuple -/
def iSeq (K : PySem.W.Frag) (tl : TE) : TI := fun σ H R => tl σ H fun x H1 => ∃ a, x = .ref a ∧ (((∃ xs, SqL K H1 a xs) ∧ R (Itl K a) H1) ∨ ((∃ xs, SqT K H1 a xs) ∧ R (Itt K a) H1))
section
variable {X : Cx} {tg : Expr}
theorem pi_seq {l : Expr} {tl : TE} (hl : PE X l tl) : PI X tg l (iSeq X.K tl) := by
  refine ⟨fun pins s σ H R I h => ?_⟩
  refine thn (hl.run pins s σ H _ I h) fun v s1 ⟨x, H1, I1, r1, q1⟩ => ?_
  obtain ⟨a, e, ⟨⟨xs, hq⟩, q⟩ | ⟨⟨xs, hq⟩, q⟩⟩ := q1
  · subst e
    cases r1
    obtain ⟨its, rv, p, hz⟩ := I1.list hq
    refine wpAny_pyIter_list p.isList ?_
    refine ⟨s1.heap.objs.size, [s1.heap.objs.size], _, _, H1, rfl, I1.kept (t' := s1.toks) fun b o e => Heap.get?_push_of_some _ e, turn_list a _, ⟨_, Heap.get?_push_size _ rfl, rfl, rfl⟩, fun b hb => ?_, q⟩
    have e : b = s1.heap.objs.size := by simpa using hb
    subst e
    exact I1.fpOk (Nat.le_refl _) (I1.hok.fresh (Nat.le_refl _))
  · subst e
    cases r1
    obtain ⟨its, rv, p, hz⟩ := I1.tuple hq
    refine wpAny_pyIter_tuple (show s1.heap.IsTuple a its.toArray from p) ?_
    refine ⟨s1.heap.objs.size, [s1.heap.objs.size], _, _, H1, rfl, I1.kept (t' := s1.toks) fun b o e => Heap.get?_push_of_some _ e, turn_tuple a _, ⟨_, Heap.get?_push_size _ rfl, rfl, rfl⟩, fun b hb => ?_, q⟩
    have e : b = s1.heap.objs.size := by simpa using hb
    subst e
    exact I1.fpOk (Nat.le_refl _) (I1.hok.fresh (Nat.le_refl _))
end
section
variable {P : Program} {w : World} {K : PySem.W.Frag} {mg : Str → Option Value} {base : Heap} {C : Addr}
/-- a class by its __init__ (one default, every argument written) -/
theorem DefM.new {x qual : Str} {st : Stmt} {dv : V} {N ps : List Str} {k : Nat} {sp spI : Sp} (D : DefM K C "__init__" qual st [dv]) (hmk : PySem.W.makesIn K C = true) (hkp : PySem.W.keepIn K (.ref C) = true) (g : mg x = some (.ref C)) (S : FnScope N ps (defScope st))
    (hb : ∀ (T : Addr) (kV doc pm : Value) (an : Option Addr) (cdv ct : Value) (us its : List Value), us.length = ps.length → its.length = 1 →
      ∃ k, bindArgs (PySem.W.fnOf "__init__" qual (defArgs st) (defBody st) (defScope st) (.ref T) kV doc pm an cdv ct) ⟨us, []⟩ = seqItems? (.ref T) >>= k ∧ k (some its.toArray) = pure (ps.zip (us ++ its.drop 1)))
    (len : ∀ vs H Q E, spI vs H Q E → vs.length = ps.length)
    (hbody : ∀ (f : Addr) (cdv : Value) (A : Around) (outer : List Env) (s : Shared) (H : Hp) (vs : List V) (Q : VK) (E : XK), Room k (A.deeper (envOfC qual (defScope st) s.heap.objs.size f cdv)) → spI vs H Q E →
      ∃ t, PSs (cxOf CX0 P w K mg base N qual (defScope st) f cdv A outer s H E).nox (defBody st) t ∧ t { nx := fun _ H' => Q .non H', rt := Q } (start N vs) H)
    (hw : ∀ vs H Q, sp vs H Q E0 → ∀ a dx, H a = none → H dx = none → dx ≠ a → spI (.ref a :: vs) (upd (upd H dx (.own a)) a (.ins C dx [])) (fun v H2 => v = .non ∧ Q (.ref a) H2) E0) : NewC P w K mg base (k + 1) x C sp := by
  obtain ⟨f, fd, F, h1, h2⟩ := D.ex
  obtain ⟨ds, v, b⟩ := F.binds1 (ps := ps) ps.length 1 (by simp) (by simp) (fun T kV doc pm an cdv ct us its h3 h4 => hb T kV doc pm an cdv ct us its h3 h4)
  cases v
  refine ⟨f, fd, ps, spI, ⟨hmk, h1, h2, hkp⟩, g, b, F.ok S len fun cdv A outer s H vs Q E hr hq => ?_, hw⟩
  obtain ⟨t, h, q⟩ := hbody f cdv A outer s H vs Q E hr hq
  exact ⟨t, h.nox, q⟩
end
/-! ### tuple(xs), list(xs) -/
/-! ### a list at d grows by parts that were there (in G) or are new -/
section
variable {G H H2 H3 : Hp} {d : Addr} {o u : HO}
end
/-! ### dicts by keys -/
/-- entries: a list of pairs -/
def Ents (H : Hp) : List V → List Key → List V → Prop
  | [], ks, ws => ks = [] ∧ ws = []
  | e :: es, ks, ws => ∃ t k ks' w ws', e = .ref t ∧ ks = k :: ks' ∧ ws = w :: ws' ∧ H t = some (.tup [kV k, w]) ∧ Ents H es ks' ws'
theorem Ents.mono {H H' : Hp} (s : Same H H') : ∀ {es : List V} {ks : List Key} {ws : List V}, Ents H es ks ws → Ents H' es ks ws
  | [], _, _, h => h
  | e :: es, _, _, h => by
    obtain ⟨t, k, ks', w, ws', e1, e2, e3, h1, h2⟩ := h
    exact ⟨t, k, ks', w, ws', e1, e2, e3, s _ _ h1, h2.mono s⟩
theorem Ents.get {H : Hp} : ∀ {es : List V} {ks : List Key} {ws : List V} {i : Nat} {e : V}, Ents H es ks ws → es[i]? = some e → ∃ t k w, e = .ref t ∧ ks[i]? = some k ∧ ws[i]? = some w ∧ H t = some (.tup [kV k, w])
  | [], _, _, i, e, h, he => by simp at he
  | x :: es, _, _, i, e, h, he => by
    obtain ⟨t, k, ks', w, ws', rfl, rfl, rfl, h1, h2⟩ := h
    cases i with
    | zero => cases he; exact ⟨t, k, w, rfl, rfl, rfl, h1⟩
    | succ i => exact Ents.get (i := i) h2 (by simpa using he)
theorem Ents.len {H : Hp} : ∀ {es : List V} {ks : List Key} {ws : List V}, Ents H es ks ws → ks.length = es.length ∧ ws.length = es.length
  | [], _, _, h => by obtain ⟨rfl, rfl⟩ := h; exact ⟨rfl, rfl⟩
  | x :: es, _, _, h => by
    obtain ⟨t, k, ks', w, ws', rfl, rfl, rfl, h1, h2⟩ := h
    have := h2.len
    simp only [List.length_cons]
    omega
end KB
namespace KQ
open PySem PySem.Spec PyProof.Rows L2 TL KB
/-! ### trees: what values mean, without addresses -/
inductive Tr where
  | non
  | bl (b : Bool)
  | int (n : Int)
  | str (z : Str)
  | ty (n : String)
  | ref (a : Addr)
  | scr (ns : List Int)
  | exc (a d : Addr) (c : Value) (fs : List Str) (xs : List Tr)
  | lst (xs : List Tr)
  | tup (xs : List Tr)
  | dic (ks : List Key) (xs : List Tr)
  | ins (C : Addr) (fs : List Str) (xs : List Tr)
  | opq (o : HO)
  | sem (c : Hp → Addr → HO → Prop)
abbrev Sto := Addr → Option Tr
abbrev Rho := List (Option Tr)
mutual
def Rep (K : PySem.W.Frag) (I : Hp) : Tr → V → Prop
  | .non, v => v = .non
  | .bl b, v => v = .bl b
  | .int n, v => v = .int n
  | .str z, v => v = .str z
  | .ty n, v => v = .ty n
  | .ref a, v => v = .ref a
  | .scr ns, v => ∃ a, v = .ref a ∧ SqL K I a (ns.map V.int)
  | .exc a d c fs xs, v => v = .ref a ∧ ∃ vs, I d = some (.xd (fs.zip vs)) ∧ fs.length = xs.length ∧ RepL K I xs vs
  | .lst xs, v => ∃ a vs, v = .ref a ∧ I a = some (.lst vs) ∧ RepL K I xs vs
  | .tup xs, v => ∃ a vs, v = .ref a ∧ SqT K I a vs ∧ RepL K I xs vs
  | .dic ks xs, v => ∃ a vs, v = .ref a ∧ I a = some (.dK (ks.zip vs)) ∧ ks.length = xs.length ∧ RepL K I xs vs
  | .ins C fs xs, v => ∃ a dx vs, v = .ref a ∧ I a = some (.ins C dx (fs.zip vs)) ∧ fs.length = xs.length ∧ RepL K I xs vs
  | .opq q, v => ∃ a, v = .ref a ∧ I a = some q
  | .sem c, v => ∃ a o, v = .ref a ∧ I a = some o ∧ ∀ I', Same I I' → c I' a o
def RepL (K : PySem.W.Frag) (I : Hp) : List Tr → List V → Prop
  | [], vs => vs = []
  | x :: xs, vs => ∃ v ws, vs = v :: ws ∧ Rep K I x v ∧ RepL K I xs ws
end
theorem sqT_mono {K : PySem.W.Frag} {H H' : Hp} {a : Addr} {xs : List V} (e : Same H H') (h : SqT K H a xs) : SqT K H' a xs := by
  rcases h with (h | ⟨o, h⟩) | h
  · exact .inl (.inl (e _ _ h))
  · exact .inl (.inr ⟨o, e _ _ h⟩)
  · exact .inr h
section
variable {K : PySem.W.Frag} {I I' : Hp}
mutual
theorem Rep.mono (s : Same I I') : ∀ (x : Tr) (v : V), Rep K I x v → Rep K I' x v
  | .non, _, h => h
  | .bl _, _, h => h
  | .int _, _, h => h
  | .str _, _, h => h
  | .ty _, _, h => h
  | .ref _, _, h => h
  | .scr _, _, h => by
    obtain ⟨a, e, h⟩ := h
    exact ⟨a, e, s.seq h⟩
  | .exc a d c fs xs, _, h => by
    obtain ⟨e, vs, h1, h2, h3⟩ := h
    exact ⟨e, vs, s _ _ h1, h2, RepL.mono s xs vs h3⟩
  | .lst xs, _, h => by
    obtain ⟨a, vs, e, h1, h2⟩ := h
    exact ⟨a, vs, e, s _ _ h1, RepL.mono s xs vs h2⟩
  | .tup xs, _, h => by
    obtain ⟨a, vs, e, h1, h2⟩ := h
    exact ⟨a, vs, e, sqT_mono s h1, RepL.mono s xs vs h2⟩
  | .dic ks xs, _, h => by
    obtain ⟨a, vs, e, h1, h2, h3⟩ := h
    exact ⟨a, vs, e, s _ _ h1, h2, RepL.mono s xs vs h3⟩
  | .ins C fs xs, _, h => by
    obtain ⟨a, dx, vs, e, h1, h2, h3⟩ := h
    exact ⟨a, dx, vs, e, s _ _ h1, h2, RepL.mono s xs vs h3⟩
  | .opq q, _, h => by
    obtain ⟨a, e, h1⟩ := h
    exact ⟨a, e, s _ _ h1⟩
  | .sem c, _, h => by
    obtain ⟨a, o, e, h1, h2⟩ := h
    exact ⟨a, o, e, s _ _ h1, fun I2 s2 => h2 I2 (s.trans s2)⟩
theorem RepL.mono (s : Same I I') : ∀ (xs : List Tr) (vs : List V), RepL K I xs vs → RepL K I' xs vs
  | [], _, h => h
  | x :: xs, _, h => by
    obtain ⟨v, ws, e, h1, h2⟩ := h
    exact ⟨v, ws, e, Rep.mono s x v h1, RepL.mono s xs ws h2⟩
end
theorem RepL.nil : RepL K I [] [] := rfl
theorem RepL.cons {x : Tr} {v : V} {xs : List Tr} {vs : List V} (h : Rep K I x v) (t : RepL K I xs vs) : RepL K I (x :: xs) (v :: vs) := ⟨v, vs, rfl, h, t⟩
theorem RepL.len : ∀ {xs : List Tr} {vs : List V}, RepL K I xs vs → vs.length = xs.length
  | [], _, h => by cases h; rfl
  | x :: xs, _, h => by
    obtain ⟨v, ws, rfl, h1, h2⟩ := h
    rw [List.length_cons, List.length_cons, h2.len]
theorem RepL.app : ∀ {xs ys : List Tr} {vs ws : List V}, RepL K I xs vs → RepL K I ys ws → RepL K I (xs ++ ys) (vs ++ ws)
  | [], _, _, _, h, g => by cases h; exact g
  | x :: xs, _, _, _, h, g => by
    obtain ⟨v, ws, rfl, h1, h2⟩ := h
    exact ⟨v, _, rfl, h1, h2.app g⟩
theorem RepL.get : ∀ {xs : List Tr} {vs : List V} {i : Nat} {v : V}, RepL K I xs vs → vs[i]? = some v → ∃ x, xs[i]? = some x ∧ Rep K I x v
  | [], _, i, v, h, e => by cases h; simp at e
  | x :: xs, _, i, v, h, e => by
    obtain ⟨y, us, rfl, h2, h3⟩ := h
    cases i with
    | zero => cases e; exact ⟨x, rfl, h2⟩
    | succ i => exact RepL.get (i := i) h3 (by simpa using e)
theorem RepL.get' : ∀ {xs : List Tr} {vs : List V} {i : Nat} {x : Tr}, RepL K I xs vs → xs[i]? = some x → ∃ v, vs[i]? = some v ∧ Rep K I x v
  | [], _, i, v, h, e => by simp at e
  | x :: xs, _, i, v, h, e => by
    obtain ⟨y, us, rfl, h2, h3⟩ := h
    cases i with
    | zero => cases e; exact ⟨y, rfl, h2⟩
    | succ i => exact RepL.get' (i := i) h3 (by simpa using e)
theorem RepL.drop : ∀ {xs : List Tr} {vs : List V} (n : Nat), RepL K I xs vs → RepL K I (xs.drop n) (vs.drop n)
  | _, _, 0, h => h
  | [], _, n + 1, h => by cases h; exact rfl
  | x :: xs, _, n + 1, h => by
    obtain ⟨v, ws, rfl, h1, h2⟩ := h
    exact RepL.drop n h2
theorem RepL.take : ∀ {xs : List Tr} {vs : List V} (n : Nat), RepL K I xs vs → RepL K I (xs.take n) (vs.take n)
  | _, _, 0, h => rfl
  | [], _, n + 1, h => by cases h; exact rfl
  | x :: xs, _, n + 1, h => by
    obtain ⟨v, ws, rfl, h1, h2⟩ := h
    exact ⟨v, _, rfl, h1, RepL.take n h2⟩
theorem RepL.set : ∀ {xs : List Tr} {vs : List V} {x : Tr} {v : V} (n : Nat), RepL K I xs vs → Rep K I x v → RepL K I (xs.set n x) (vs.set n v)
  | [], _, _, _, n, h, _ => by cases h; exact rfl
  | y :: xs, _, x, v, 0, h, g => by
    obtain ⟨w, ws, rfl, h1, h2⟩ := h
    exact ⟨v, ws, rfl, g, h2⟩
  | y :: xs, _, x, v, n + 1, h, g => by
    obtain ⟨w, ws, rfl, h1, h2⟩ := h
    exact ⟨w, _, rfl, h1, RepL.set n h2 g⟩
theorem RepL.ints : ∀ (ns : List Int), RepL K I (ns.map Tr.int) (ns.map V.int)
  | [] => rfl
  | n :: ns => ⟨_, _, rfl, rfl, RepL.ints ns⟩
end
/-! ### what a cell holds -/
def CRep (K : PySem.W.Frag) (I : Hp) : Tr → HO → Prop
  | .lst xs, o => ∃ vs, o = .lst vs ∧ RepL K I xs vs
  | .dic ks xs, o => ∃ vs, o = .dK (ks.zip vs) ∧ ks.length = xs.length ∧ RepL K I xs vs
  | .ins C fs xs, o => ∃ dx vs, o = .ins C dx (fs.zip vs) ∧ fs.length = xs.length ∧ RepL K I xs vs
  | .opq q, o => o = q
  | .sem c, o => ∀ I' a, Same I I' → c I' a o
  | _, _ => False
theorem CRep.mono {K : PySem.W.Frag} {I I' : Hp} (s : Same I I') {c : Tr} {o : HO} (h : CRep K I c o) : CRep K I' c o := by
  cases c with
  | lst xs => obtain ⟨vs, e, h⟩ := h; exact ⟨vs, e, h.mono s⟩
  | dic ks xs => obtain ⟨vs, e, l, h⟩ := h; exact ⟨vs, e, l, h.mono s⟩
  | ins C fs xs => obtain ⟨dx, vs, e, l, h⟩ := h; exact ⟨dx, vs, e, l, h.mono s⟩
  | opq q => exact h
  | sem c => exact fun I2 a s2 => h I2 a (s.trans s2)
  | _ => exact h.elim
def lk : Option Obj → HO → HO
  | none, o => o
  | some od, o => .frz od o
abbrev Lk := Addr → Option Obj
/-- H holds: the trees' part I (dicts locked by L), the cells S, the frame F -/
structure Hd (K : PySem.W.Frag) (L : Lk) (F H : Hp) (S : Sto) (I : Hp) : Prop where
  sub : ∀ b o, I b = some o → H b = some (lk (L b) o)
  lck : ∀ b od, L b = some od → ∃ kvs, I b = some (.dK kvs)
  cel : ∀ a c, S a = some c → I a = none ∧ F a = none ∧ ∃ o, H a = some o ∧ CRep K I c o
  fra : ∀ b o, F b = some o → H b = some o ∧ I b = none
def put (S : Sto) (a : Addr) (c : Tr) : Sto := fun b => if b = a then some c else S b
theorem put_same {S : Sto} {a : Addr} {c : Tr} : put S a c a = some c := if_pos rfl
theorem put_ne {S : Sto} {a b : Addr} {c : Tr} (h : b ≠ a) : put S a c b = S b := if_neg h
theorem put_put {S : Sto} {a : Addr} {c d : Tr} : put (put S a c) a d = put S a d := by
  funext b; unfold put; split <;> rfl
section
variable {K : PySem.W.Frag} {L : Lk} {F H : Hp} {S : Sto} {I : Hp} {a b p d : Addr} {o : HO} {c : Tr}
theorem Hd.freeI (h : Hd K L F H S I) (n : H p = none) : I p = none := by
  cases e : I p with
  | none => rfl
  | some o => rw [h.sub p o e] at n; cases n
theorem Hd.freeS (h : Hd K L F H S I) (n : H p = none) : S p = none := by
  cases e : S p with
  | none => rfl
  | some o => obtain ⟨_, _, o, e, _⟩ := h.cel p o e; rw [e] at n; cases n
theorem Hd.freeF (h : Hd K L F H S I) (n : H p = none) : F p = none := by
  cases e : F p with
  | none => rfl
  | some o => rw [(h.fra p o e).1] at n; cases n
theorem Hd.freeL (h : Hd K L F H S I) (n : H p = none) : L p = none := by
  cases e : L p with
  | none => rfl
  | some o => obtain ⟨k, e⟩ := h.lck p o e; rw [h.freeI n] at e; cases e
theorem Hd.lkN (h : Hd K L F H S I) (n : I p = none) : L p = none := by
  cases e : L p with
  | none => rfl
  | some o => obtain ⟨k, e⟩ := h.lck p o e; rw [n] at e; cases e
theorem upd_sub {H' : Hp} {p : Addr} {o : HO} (n : H' p = none) : Same H' (upd H' p o) := fun b u e => by rw [upd_ne (ne_of_none e n)]; exact e
/-- a new thing of the trees -/
theorem Hd.imm (h : Hd K L F H S I) (n : H p = none) : Hd K L F (upd H p o) S (upd I p o) where
  sub := fun b u e => by
    by_cases hb : b = p
    · subst hb; rw [upd_same] at e ⊢; cases e; rw [h.freeL n]; rfl
    · rw [upd_ne hb] at e ⊢; exact h.sub b u e
  lck := fun b od e => by
    obtain ⟨k, e⟩ := h.lck b od e
    exact ⟨k, by rw [upd_ne (ne_of_none e (h.freeI n))]; exact e⟩
  cel := fun a c e => by
    obtain ⟨h1, h2, o', h3, h4⟩ := h.cel a c e
    have hn : a ≠ p := ne_of_none h3 n
    exact ⟨by rw [upd_ne hn]; exact h1, h2, o', by rw [upd_ne hn]; exact h3, h4.mono (upd_sub (h.freeI n))⟩
  fra := fun b u e => by
    obtain ⟨h1, h2⟩ := h.fra b u e
    have hn : b ≠ p := ne_of_none h1 n
    exact ⟨by rw [upd_ne hn]; exact h1, by rw [upd_ne hn]; exact h2⟩
/-- a new thing that nobody tracks -/
theorem Hd.un (h : Hd K L F H S I) (n : H p = none) : Hd K L F (upd H p o) S I where
  sub := fun b u e => by rw [upd_ne (ne_of_none (h.sub b u e) n)]; exact h.sub b u e
  lck := h.lck
  cel := fun a c e => by
    obtain ⟨h1, h2, o', h3, h4⟩ := h.cel a c e
    exact ⟨h1, h2, o', by rw [upd_ne (ne_of_none h3 n)]; exact h3, h4⟩
  fra := fun b u e => by
    obtain ⟨h1, h2⟩ := h.fra b u e
    exact ⟨by rw [upd_ne (ne_of_none h1 n)]; exact h1, h2⟩
/-- a new cell -/
theorem Hd.cell (h : Hd K L F H S I) (n : H p = none) (r : CRep K I c o) : Hd K L F (upd H p o) (put S p c) I where
  sub := (h.un n).sub
  lck := h.lck
  cel := fun a c' e => by
    by_cases ha : a = p
    · subst ha; rw [put_same] at e; cases e
      exact ⟨h.freeI n, h.freeF n, o, upd_same, r⟩
    · rw [put_ne ha] at e
      exact (h.un n).cel a c' e
  fra := (h.un n).fra
/-- a cell is changed -/
theorem Hd.mut (h : Hd K L F H S I) {c0 : Tr} (e0 : S a = some c0) (r : CRep K I c o) : Hd K L F (upd H a o) (put S a c) I := by
  obtain ⟨i0, f0, _⟩ := h.cel a c0 e0
  refine ⟨fun b u e => ?_, h.lck, fun b c' e => ?_, fun b u e => ?_⟩
  · rw [upd_ne (ne_of_none e i0)]; exact h.sub b u e
  · by_cases hb : b = a
    · subst hb; rw [put_same] at e; cases e
      exact ⟨i0, f0, o, upd_same, r⟩
    · rw [put_ne hb] at e
      obtain ⟨h1, h2, o', h3, h4⟩ := h.cel b c' e
      exact ⟨h1, h2, o', by rw [upd_ne hb]; exact h3, h4⟩
  · obtain ⟨h1, h2⟩ := h.fra b u e
    exact ⟨by rw [upd_ne (ne_of_none e f0)]; exact h1, h2⟩
/-- into the frame -/
theorem Hd.frame (h : Hd K L F H S I) (n : H p = none) : Hd K L (upd F p o) (upd H p o) S I where
  sub := (h.un n).sub
  lck := h.lck
  cel := fun a c e => by
    obtain ⟨h1, h2, o', h3, h4⟩ := h.cel a c e
    have hn : a ≠ p := ne_of_none h3 n
    exact ⟨h1, by rw [upd_ne hn]; exact h2, o', by rw [upd_ne hn]; exact h3, h4⟩
  fra := fun b u e => by
    by_cases hb : b = p
    · subst hb; rw [upd_same] at e ⊢; exact ⟨e, h.freeI n⟩
    · rw [upd_ne hb] at e ⊢; exact h.fra b u e
/-- what stands in the frame is changed -/
theorem Hd.refr {u : HO} (h : Hd K L (upd F p u) H S I) : Hd K L (upd F p o) (upd H p o) S I := by
  obtain ⟨hp, ip⟩ := h.fra p u upd_same
  refine ⟨fun b v e => ?_, h.lck, fun a c e => ?_, fun b v e => ?_⟩
  · rw [upd_ne (ne_of_none e ip)]; exact h.sub b v e
  · obtain ⟨h1, h2, o', h3, h4⟩ := h.cel a c e
    have hn : a ≠ p := fun z => by subst z; rw [upd_same] at h2; cases h2
    exact ⟨h1, by rw [upd_ne hn] at h2 ⊢; exact h2, o', by rw [upd_ne hn]; exact h3, h4⟩
  · by_cases hb : b = p
    · subst hb; rw [upd_same] at e ⊢; exact ⟨e, ip⟩
    · rw [upd_ne hb] at e ⊢
      exact h.fra b v (by rw [upd_ne hb]; exact e)
/-- out of the frame to the trees -/
theorem Hd.unframe (h : Hd K L (upd F p o) H S I) (n : F p = none) : Hd K L F H S (upd I p o) := by
  obtain ⟨hp, ip⟩ := h.fra p o upd_same
  refine ⟨fun b v e => ?_, fun b od e => ?_, fun a c e => ?_, fun b v e => ?_⟩
  · by_cases hb : b = p
    · subst hb; rw [upd_same] at e; cases e; rw [h.lkN ip]; exact hp
    · rw [upd_ne hb] at e; exact h.sub b v e
  · obtain ⟨k, e⟩ := h.lck b od e
    exact ⟨k, by rw [upd_ne (ne_of_none e ip)]; exact e⟩
  · obtain ⟨h1, h2, o', h3, h4⟩ := h.cel a c e
    have hn : a ≠ p := fun z => by subst z; rw [upd_same] at h2; cases h2
    exact ⟨by rw [upd_ne hn]; exact h1, by rw [upd_ne hn] at h2; exact h2, o', h3, h4.mono (upd_sub ip)⟩
  · have hn : b ≠ p := ne_of_none e n
    obtain ⟨h1, h2⟩ := h.fra b v (by rw [upd_ne hn]; exact e)
    exact ⟨h1, by rw [upd_ne hn]; exact h2⟩
theorem Hd.fewer {S' : Sto} (h : Hd K L F H S I) (s : ∀ a c, S' a = some c → S a = some c) : Hd K L F H S' I := ⟨h.sub, h.lck, fun a c e => h.cel a c (s a c e), h.fra⟩
theorem Hd.lessF {F' : Hp} (h : Hd K L F H S I) (s : Same F' F) : Hd K L F' H S I := ⟨h.sub, h.lck, fun a c e => by
  obtain ⟨h1, h2, h3⟩ := h.cel a c e
  exact ⟨h1, s.free h2, h3⟩, fun b o e => h.fra b o (s b o e)⟩
/-- to the trees: what stands in H and nobody tracks -/
theorem Hd.adopt (h : Hd K L F H S I) (e : H p = some o) (hi : I p = none) (hs : S p = none) (hf : F p = none) : Hd K L F H S (upd I p o) := by
  refine ⟨fun b v z => ?_, fun b od z => ?_, fun a c z => ?_, fun b v z => ?_⟩
  · by_cases hb : b = p
    · subst hb; rw [upd_same] at z; cases z; rw [h.lkN hi]; exact e
    · rw [upd_ne hb] at z; exact h.sub b v z
  · obtain ⟨k, z⟩ := h.lck b od z
    exact ⟨k, by rw [upd_ne (ne_of_none z hi)]; exact z⟩
  · obtain ⟨h1, h2, o', h3, h4⟩ := h.cel a c z
    have hn : a ≠ p := fun y => by subst y; rw [hs] at z; cases z
    exact ⟨by rw [upd_ne hn]; exact h1, h2, o', h3, h4.mono (upd_sub hi)⟩
  · have hn : b ≠ p := fun y => by subst y; rw [hf] at z; cases z
    obtain ⟨h1, h2⟩ := h.fra b v z
    exact ⟨h1, by rw [upd_ne hn]; exact h2⟩
def setL (L : Lk) (d : Addr) (v : Option Obj) : Lk := fun b => if b = d then v else L b
/-- a dict of the trees is locked -/
theorem Hd.lock {kvs : List (Key × V)} {od : Obj} (h : Hd K L F H S I) (e : I d = some (.dK kvs)) : Hd K (setL L d (some od)) F (upd H d (.frz od (.dK kvs))) S I := by
  refine ⟨fun b u z => ?_, fun b od' z => ?_, fun a c z => ?_, fun b u z => ?_⟩
  · by_cases hb : b = d
    · subst hb; rw [e] at z; cases z; rw [upd_same]; unfold setL; rw [if_pos rfl]; rfl
    · rw [upd_ne hb]; unfold setL; rw [if_neg hb]; exact h.sub b u z
  · unfold setL at z
    split at z
    · rename_i hb; subst hb; exact ⟨kvs, e⟩
    · exact h.lck b od' z
  · obtain ⟨h1, h2, o', h3, h4⟩ := h.cel a c z
    have hn : a ≠ d := fun y => by subst y; rw [e] at h1; cases h1
    exact ⟨h1, h2, o', by rw [upd_ne hn]; exact h3, h4⟩
  · obtain ⟨h1, h2⟩ := h.fra b u z
    have hn : b ≠ d := fun y => by subst y; rw [e] at h2; cases h2
    exact ⟨by rw [upd_ne hn]; exact h1, h2⟩
end
/-! ### what a tree shows, cells looked at -/
def vw (S : Sto) : Tr → Tr
  | .ref a => (S a).getD (.ref a)
  | x => x
theorem vw_ref {S : Sto} {a : Addr} {c : Tr} (h : S a = some c) : vw S (.ref a) = c := by show (S a).getD _ = c; rw [h]; rfl
section
variable {K : PySem.W.Frag} {L : Lk} {F H : Hp} {S : Sto} {I : Hp} {x : Tr} {v : V}
theorem vw_cases (S : Sto) (x : Tr) : (vw S x = x ∧ ∀ a, x = .ref a → S a = none) ∨ ∃ a c, x = .ref a ∧ S a = some c ∧ vw S x = c := by
  cases x with
  | ref a =>
    cases e : S a with
    | none => exact .inl ⟨by show (S a).getD _ = _; rw [e]; rfl, fun b z => by cases z; exact e⟩
    | some c => exact .inr ⟨a, c, rfl, e, vw_ref e⟩
  | _ => exact .inl ⟨rfl, fun a z => nomatch z⟩
theorem vw_lst {xs : List Tr} (h : Hd K L F H S I) (r : Rep K I x v) (e : vw S x = .lst xs) : ∃ a vs, v = .ref a ∧ H a = some (.lst vs) ∧ RepL K I xs vs := by
  rcases vw_cases S x with ⟨e1, n⟩ | ⟨a, c, rfl, ea, e1⟩
  · rw [e1] at e; subst e
    obtain ⟨a, vs, rfl, h1, h2⟩ := r
    have q := h.sub a _ h1
    have hl : L a = none := by
      cases z : L a with
      | none => rfl
      | some od => obtain ⟨k, z⟩ := h.lck a od z; rw [h1] at z; cases z
    rw [hl] at q
    exact ⟨a, vs, rfl, q, h2⟩
  · rw [e1] at e; subst e
    obtain ⟨_, _, o, h1, vs, rfl, h2⟩ := h.cel a _ ea
    cases r
    exact ⟨a, vs, rfl, h1, h2⟩
theorem Hd.sqT (h : Hd K L F H S I) {a : Addr} {vs : List V} (q : SqT K I a vs) : SqT K H a vs := by
  rcases q with (q | ⟨o, q⟩) | q
  · have e := h.sub a _ q
    cases z : L a with
    | none => rw [z] at e; exact .inl (.inl e)
    | some od => rw [z] at e; exact .inl (.inr ⟨od, e⟩)
  · have e := h.sub a _ q
    cases z : L a with
    | none => rw [z] at e; exact .inl (.inr ⟨o, e⟩)
    | some od => obtain ⟨k, z⟩ := h.lck a od z; rw [q] at z; cases z
  · exact .inr q
theorem Hd.sqL (h : Hd K L F H S I) {a : Addr} {vs : List V} (q : SqL K I a vs) : SqL K H a vs := by
  rcases q with (q | ⟨o, q⟩) | q
  · have e := h.sub a _ q
    cases z : L a with
    | none => rw [z] at e; exact .inl (.inl e)
    | some od => rw [z] at e; exact .inl (.inr ⟨od, e⟩)
  · have e := h.sub a _ q
    cases z : L a with
    | none => rw [z] at e; exact .inl (.inr ⟨o, e⟩)
    | some od => obtain ⟨k, z⟩ := h.lck a od z; rw [q] at z; cases z
  · exact .inr q
theorem vw_tup {xs : List Tr} (h : Hd K L F H S I) (r : Rep K I x v) (e : vw S x = .tup xs) : ∃ a vs, v = .ref a ∧ SqT K H a vs ∧ RepL K I xs vs := by
  rcases vw_cases S x with ⟨e1, n⟩ | ⟨a, c, rfl, ea, e1⟩
  · rw [e1] at e; subst e
    obtain ⟨a, vs, rfl, h1, h2⟩ := r
    exact ⟨a, vs, rfl, h.sqT h1, h2⟩
  · rw [e1] at e; subst e
    obtain ⟨_, _, o, h1, h2⟩ := h.cel a _ ea
    exact h2.elim
theorem vw_scr {ns : List Int} (h : Hd K L F H S I) (r : Rep K I x v) (e : vw S x = .scr ns) : ∃ a, v = .ref a ∧ SqL K H a (ns.map V.int) := by
  rcases vw_cases S x with ⟨e1, n⟩ | ⟨a, c, rfl, ea, e1⟩
  · rw [e1] at e; subst e
    obtain ⟨a, rfl, h1⟩ := r
    exact ⟨a, rfl, h.sqL h1⟩
  · rw [e1] at e; subst e
    obtain ⟨_, _, o, h1, h2⟩ := h.cel a _ ea
    exact h2.elim
theorem vw_dic {ks : List Key} {xs : List Tr} (h : Hd K L F H S I) (r : Rep K I x v) (e : vw S x = .dic ks xs) : ∃ a vs, v = .ref a ∧ Rd H a (.dK (ks.zip vs)) ∧ ks.length = xs.length ∧ RepL K I xs vs := by
  rcases vw_cases S x with ⟨e1, n⟩ | ⟨a, c, rfl, ea, e1⟩
  · rw [e1] at e; subst e
    obtain ⟨a, vs, rfl, h1, h2, h3⟩ := r
    refine ⟨a, vs, rfl, ?_, h2, h3⟩
    have q := h.sub a _ h1
    cases z : L a with
    | none => rw [z] at q; exact .inl q
    | some od => rw [z] at q; exact .inr ⟨od, q⟩
  · rw [e1] at e; subst e
    obtain ⟨_, _, o, h1, vs, rfl, h2, h3⟩ := h.cel a _ ea
    cases r
    exact ⟨a, vs, rfl, .inl h1, h2, h3⟩
theorem vw_ins {C : Addr} {fs : List Str} {xs : List Tr} (h : Hd K L F H S I) (r : Rep K I x v) (e : vw S x = .ins C fs xs) : ∃ a dx vs, v = .ref a ∧ H a = some (.ins C dx (fs.zip vs)) ∧ fs.length = xs.length ∧ RepL K I xs vs := by
  rcases vw_cases S x with ⟨e1, n⟩ | ⟨a, c, rfl, ea, e1⟩
  · rw [e1] at e; subst e
    obtain ⟨a, dx, vs, rfl, h1, h2, h3⟩ := r
    refine ⟨a, dx, vs, rfl, ?_, h2, h3⟩
    have q := h.sub a _ h1
    cases z : L a with
    | none => rw [z] at q; exact q
    | some od => obtain ⟨k, z⟩ := h.lck a od z; rw [h1] at z; cases z
  · rw [e1] at e; subst e
    obtain ⟨_, _, o, h1, dx, vs, rfl, h2, h3⟩ := h.cel a _ ea
    cases r
    exact ⟨a, dx, vs, rfl, h1, h2, h3⟩
theorem Rep.int {n : Int} (r : Rep K I (.int n) v) : v = .int n := r
theorem Rep.flat (r : Rep K I x v) (e : vw S x = .non ∨ (∃ b, vw S x = .bl b) ∨ (∃ n, vw S x = .int n) ∨ ∃ z, vw S x = .str z) (h : Hd K L F H S I) : vw S x = x := by
  rcases vw_cases S x with ⟨e1, n⟩ | ⟨a, c, rfl, ea, e1⟩
  · exact e1
  · obtain ⟨_, _, o, h1, h2⟩ := h.cel a _ ea
    rw [e1] at e
    rcases e with rfl | ⟨b, rfl⟩ | ⟨b, rfl⟩ | ⟨b, rfl⟩ <;> exact h2.elim
end
end KQ
namespace KQ
open PySem PySem.Spec PyProof.Rows L2 TL KB
/-! ### readings over trees -/
abbrev QV := Tr → Sto → Prop
abbrev QX := Value → List Str → List Tr → Sto → Prop
abbrev QL := List Tr → Sto → Prop
abbrev QB := Bool → Sto → Prop
abbrev QS := Rho → Sto → Prop
abbrev XS := Value → List Str → List Tr → Rho → Sto → Prop
abbrev UE := Rho → Sto → QV → QX → Prop
abbrev UA := Rho → Sto → QL → QX → Prop
abbrev UT := Rho → Sto → QB → QX → Prop
structure UEnds where
  nx : QS
  rt : QV
  bk : QS
  ct : QS
abbrev US := UEnds → XS → Rho → Sto → Prop
/-- what is walked: the items, and what must hold of the cells at each turn -/
structure Walk where
  xs : List Tr
  ok : Sto → Prop
abbrev UI := Rho → Sto → (Walk → Sto → Prop) → QX → Prop
def Slots (K : PySem.W.Frag) (I : Hp) (σ : L2.St) (ρ : Rho) : Prop := σ.length = ρ.length ∧ ∀ (i : Nat) (x : Tr), ρ[i]? = some (some x) → ∃ v, σ[i]? = some (some v) ∧ Rep K I x v
section
variable {K : PySem.W.Frag} {I I' : Hp} {σ : L2.St} {ρ : Rho}
theorem Slots.mono (h : Slots K I σ ρ) (s : Same I I') : Slots K I' σ ρ := ⟨h.1, fun i x e => by
  obtain ⟨v, e, r⟩ := h.2 i x e
  exact ⟨v, e, r.mono s⟩⟩
theorem Slots.set {i : Nat} {x : Tr} {v : V} (h : Slots K I σ ρ) (r : Rep K I x v) : Slots K I (σ.set i (some v)) (ρ.set i (some x)) := by
  refine ⟨by simp [h.1], fun j y e => ?_⟩
  by_cases hj : i = j
  · subst hj
    have hl : i < ρ.length := by
      by_cases z : i < ρ.length
      · exact z
      · rw [List.getElem?_eq_none (by simpa using z)] at e; cases e
    rw [List.getElem?_set_self hl] at e
    cases e
    exact ⟨v, by rw [List.getElem?_set_self (by rw [h.1]; exact hl)], r⟩
  · rw [List.getElem?_set_ne hj] at e ⊢
    exact h.2 j y e
theorem Slots.none {i : Nat} {o : Option V} (h : Slots K I σ ρ) : Slots K I (σ.set i o) (ρ.set i none) := by
  refine ⟨by simp [h.1], fun j y e => ?_⟩
  by_cases hj : i = j
  · subst hj
    by_cases z : i < ρ.length
    · rw [List.getElem?_set_self z] at e; cases e
    · rw [List.getElem?_eq_none (by simpa using z)] at e; cases e
  · rw [List.getElem?_set_ne hj] at e ⊢
    exact h.2 j y e
def wipeR (ρ : Rho) : List Nat → Rho
  | [] => ρ
  | i :: r => (wipeR ρ r).set i none
theorem Slots.wipe {vs : List Nat} (h : Slots K I σ ρ) : Slots K I (L2.wipe σ vs) (wipeR ρ vs) := by
  induction vs with
  | nil => exact h
  | cons i r ih => exact ih.none
end
section
variable (K : PySem.W.Frag) (L : Lk) (F : Hp) (I : Hp)
def dnV (R : VK) : QV := fun y S' => ∀ v H' I', Hd K L F H' S' I' → Same I I' → Rep K I' y v → R v H'
def dnL (R : List V → Hp → Prop) : QL := fun ys S' => ∀ vs H' I', Hd K L F H' S' I' → Same I I' → RepL K I' ys vs → R vs H'
def dnB (R : Bool → Hp → Prop) : QB := fun b S' => ∀ H' I', Hd K L F H' S' I' → Same I I' → R b H'
/-- an exception's own dict, new -/
def Xd (K : PySem.W.Frag) (F : Hp) (H' : Hp) (S' : Sto) (I' : Hp) (d : Addr) (fs : List Str) (xs : List Tr) : Prop := ∃ vs, H' d = some (.xd (fs.zip vs)) ∧ fs.length = xs.length ∧ RepL K I' xs vs ∧ I' d = none ∧ S' d = none ∧ F d = none
def dnX (W : WX) (σ : L2.St) : QX := fun c fs xs S' => ∀ d H' I', Hd K L F H' S' I' → Same I I' → Xd K F H' S' I' d fs xs → W c (some d) σ H'
def dnS (R : L2.St → Hp → Prop) : QS := fun ρ S' => ∀ σ' H' I', Hd K L F H' S' I' → Same I I' → Slots K I' σ' ρ → R σ' H'
def dnXS (W : WX) : XS := fun c fs xs ρ S' => ∀ d σ' H' I', Hd K L F H' S' I' → Same I I' → Slots K I' σ' ρ → Xd K F H' S' I' d fs xs → W c (some d) σ' H'
def dnD (D : L2.Ends) : UEnds := ⟨dnS K L F I D.nx, dnV K L F I D.rt, dnS K L F I D.bk, dnS K L F I D.ct⟩
end
section
variable {K : PySem.W.Frag} {L : Lk} {F I I1 : Hp}
theorem dnV_up {R : VK} (s : Same I I1) : ∀ y S, dnV K L F I R y S → dnV K L F I1 R y S := fun y S h v H' I' hd s' r => h v H' I' hd (s.trans s') r
theorem dnX_up {W : WX} {σ : L2.St} (s : Same I I1) : ∀ c fs xs S, dnX K L F I W σ c fs xs S → dnX K L F I1 W σ c fs xs S := fun c fs xs S h d H' I' hd s' r => h d H' I' hd (s.trans s') r
theorem dnS_up {R : L2.St → Hp → Prop} (s : Same I I1) : ∀ y S, dnS K L F I R y S → dnS K L F I1 R y S := fun y S h v H' I' hd s' r => h v H' I' hd (s.trans s') r
theorem dnXS_up {W : WX} (s : Same I I1) : ∀ c fs xs ρ S, dnXS K L F I W c fs xs ρ S → dnXS K L F I1 W c fs xs ρ S := fun c fs xs ρ S h d σ' H' I' hd s' r z => h d σ' H' I' hd (s.trans s') r z
/-- an expression's exception, at the slots as they stand -/
theorem dnXS_at {W : WX} {σ : L2.St} {ρ : Rho} (sl : Slots K I σ ρ) : ∀ c fs xs S, dnXS K L F I W c fs xs ρ S → dnX K L F I W σ c fs xs S := fun c fs xs S h d H' I' hd s' r => h d σ H' I' hd s' (sl.mono s') r
end
def ULe (D D' : UEnds) : Prop := (∀ ρ S, D.nx ρ S → D'.nx ρ S) ∧ (∀ y S, D.rt y S → D'.rt y S) ∧ (∀ ρ S, D.bk ρ S → D'.bk ρ S) ∧ (∀ ρ S, D.ct ρ S → D'.ct ρ S)
theorem dnD_up {K : PySem.W.Frag} {L : Lk} {F I I1 : Hp} {D : L2.Ends} (s : Same I I1) : ULe (dnD K L F I D) (dnD K L F I1 D) := ⟨dnS_up s, dnV_up s, dnS_up s, dnS_up s⟩
theorem ULe.refl (D : UEnds) : ULe D D := ⟨fun _ _ h => h, fun _ _ h => h, fun _ _ h => h, fun _ _ h => h⟩
def XLe (X X' : QX) : Prop := ∀ c fs xs S, X c fs xs S → X' c fs xs S
def XSLe (X X' : XS) : Prop := ∀ c fs xs ρ S, X c fs xs ρ S → X' c fs xs ρ S
def atR (X : XS) (ρ : Rho) : QX := fun c fs xs S => X c fs xs ρ S
def MonoE (t : UE) : Prop := ∀ ρ S Q Q' X X', (∀ y S, Q y S → Q' y S) → XLe X X' → t ρ S Q X → t ρ S Q' X'
def MonoA (t : UA) : Prop := ∀ ρ S Q Q' X X', (∀ y S, Q y S → Q' y S) → XLe X X' → t ρ S Q X → t ρ S Q' X'
def MonoT (t : UT) : Prop := ∀ ρ S Q Q' X X', (∀ y S, Q y S → Q' y S) → XLe X X' → t ρ S Q X → t ρ S Q' X'
def MonoS (t : US) : Prop := ∀ D D' X X' ρ S, ULe D D' → XSLe X X' → t D X ρ S → t D' X' ρ S
def MonoI (t : UI) : Prop := ∀ ρ S (Q Q' : Walk → Sto → Prop) X X', (∀ y S, Q y S → Q' y S) → XLe X X' → t ρ S Q X → t ρ S Q' X'
def lE (K : PySem.W.Frag) (W : WX) (t : UE) : TE := fun σ H R => ∃ L F S I ρ, Hd K L F H S I ∧ Slots K I σ ρ ∧ t ρ S (dnV K L F I R) (dnX K L F I W σ)
def lA (K : PySem.W.Frag) (W : WX) (t : UA) : TA := fun σ H R => ∃ L F S I ρ, Hd K L F H S I ∧ Slots K I σ ρ ∧ t ρ S (dnL K L F I R) (dnX K L F I W σ)
def lT (K : PySem.W.Frag) (W : WX) (t : UT) : TT := fun σ H R => ∃ L F S I ρ, Hd K L F H S I ∧ Slots K I σ ρ ∧ t ρ S (dnB K L F I R) (dnX K L F I W σ)
def lS (K : PySem.W.Frag) (W : WX) (t : US) : TS := fun D σ H => ∃ L F S I ρ, Hd K L F H S I ∧ Slots K I σ ρ ∧ t (dnD K L F I D) (dnXS K L F I W) ρ S
/-- an iterator yields the items of a walk -/
structure ItRep (K : PySem.W.Frag) (L : Lk) (I : Hp) (J : It) (wk : Walk) : Prop where
  go : ∀ F i H S I', Hd K L F H S I' → Same I I' → wk.ok S → i < wk.xs.length → J.go i H
  stop : ∀ F i H S I', Hd K L F H S I' → Same I I' → wk.ok S → i = wk.xs.length → J.stop i H
  yld : ∀ F i H S I' v H' x, Hd K L F H S I' → Same I I' → wk.ok S → wk.xs[i]? = some x → J.yld i H v H' → ∃ I'', Hd K L F H' S I'' ∧ Same I' I'' ∧ Rep K I'' x v
def lI (K : PySem.W.Frag) (W : WX) (t : UI) : TI := fun σ H R => ∃ L F S I ρ, Hd K L F H S I ∧ Slots K I σ ρ ∧ t ρ S (fun wk S' => ∀ J H' I', Hd K L F H' S' I' → Same I I' → ItRep K L I' J wk → R J H') (dnX K L F I W σ)
structure TPE (X : Cx) (W : WX) (e : Expr) (t : UE) : Prop where
  pe : PE X e (lE X.K W t)
  mono : MonoE t
structure TPA (X : Cx) (W : WX) (es : List Expr) (t : UA) : Prop where
  pe : PA X es (lA X.K W t)
  mono : MonoA t
structure TPT (X : Cx) (W : WX) (e : Expr) (t : UT) : Prop where
  pe : PT X e (lT X.K W t)
  mono : MonoT t
structure TPW (X : Cx) (W : WX) (e : Expr) (t : UT) : Prop where
  pe : PW X e (lT X.K W t)
  mono : MonoT t
structure TPS (X : Cx) (W : WX) (s : Stmt) (t : US) : Prop where
  pe : PS X s (lS X.K W t)
  mono : MonoS t
structure TPSs (X : Cx) (W : WX) (s : List Stmt) (t : US) : Prop where
  pe : PSs X s (lS X.K W t)
  mono : MonoS t
structure TPI (X : Cx) (W : WX) (tg e : Expr) (t : UI) : Prop where
  pe : PI X tg e (lI X.K W t)
  mono : MonoI t
section
variable {X : Cx}
theorem wkE {e : Expr} {t t' : TE} (h : PE X e t) (w : ∀ σ H Q, t' σ H Q → t σ H Q) : PE X e t' := ⟨fun pins s σ H Q I q => h.run pins s σ H Q I (w _ _ _ q)⟩
theorem wkA {e : List Expr} {t t' : TA} (h : PA X e t) (w : ∀ σ H Q, t' σ H Q → t σ H Q) : PA X e t' := ⟨fun pos pins s σ H Q I q => h.run pos pins s σ H Q I (w _ _ _ q)⟩
theorem wkT {e : Expr} {t t' : TT} (h : PT X e t) (w : ∀ σ H Q, t' σ H Q → t σ H Q) : PT X e t' := ⟨fun pins s σ H Q I q => h.run pins s σ H Q I (w _ _ _ q)⟩
theorem wkW {e : Expr} {t t' : TT} (h : PW X e t) (w : ∀ σ H Q, t' σ H Q → t σ H Q) : PW X e t' := ⟨fun wh pins s σ H Q I q => h.run wh pins s σ H Q I (w _ _ _ q)⟩
theorem wkS {e : Stmt} {t t' : TS} (h : PS X e t) (w : ∀ D σ H, t' D σ H → t D σ H) : PS X e t' := ⟨fun pins s σ H D I q => h.run pins s σ H D I (w _ _ _ q)⟩
theorem wkSs {e : List Stmt} {t t' : TS} (h : PSs X e t) (w : ∀ D σ H, t' D σ H → t D σ H) : PSs X e t' := ⟨fun pins s σ H D I q => h.run pins s σ H D I (w _ _ _ q)⟩
theorem wkI {tg e : Expr} {t t' : TI} (h : PI X tg e t) (w : ∀ σ H R, t' σ H R → t σ H R) : PI X tg e t' := ⟨fun pins s σ H R I q => h.run pins s σ H R I (w _ _ _ q)⟩
end
section
variable {X : Cx} {W : WX} {a b e : Expr} {es : List Expr} {ta tb te : UE} {pos : Pos}
/-- to go on behind an expression -/
theorem lE_then {K : PySem.W.Frag} {L : Lk} {F H I : Hp} {S : Sto} {ρ : Rho} {σ : L2.St} {R : VK} {Q : QV} {X0 : QX} (m : MonoE ta) (hd : Hd K L F H S I) (sl : Slots K I σ ρ) (h : ta ρ S Q X0) (hx : XLe X0 (dnX K L F I W σ))
    (k : ∀ y S' v H' I', Q y S' → Hd K L F H' S' I' → Same I I' → Slots K I' σ ρ → Rep K I' y v → R v H') : lE K W ta σ H R :=
  ⟨L, F, S, I, ρ, hd, sl, m _ _ _ _ _ _ (fun y S' q v H' I' h1 s r => k y S' v H' I' q h1 s (sl.mono s) r) hx h⟩
theorem lA_then {K : PySem.W.Frag} {L : Lk} {F H I : Hp} {S : Sto} {ρ : Rho} {σ : L2.St} {R : List V → Hp → Prop} {Q : QL} {X0 : QX} {tr : UA} (m : MonoA tr) (hd : Hd K L F H S I) (sl : Slots K I σ ρ) (h : tr ρ S Q X0) (hx : XLe X0 (dnX K L F I W σ))
    (k : ∀ y S' v H' I', Q y S' → Hd K L F H' S' I' → Same I I' → Slots K I' σ ρ → RepL K I' y v → R v H') : lA K W tr σ H R :=
  ⟨L, F, S, I, ρ, hd, sl, m _ _ _ _ _ _ (fun y S' q v H' I' h1 s r => k y S' v H' I' q h1 s (sl.mono s) r) hx h⟩
theorem lT_then {K : PySem.W.Frag} {L : Lk} {F H I : Hp} {S : Sto} {ρ : Rho} {σ : L2.St} {R : Bool → Hp → Prop} {Q : QB} {X0 : QX} {tt : UT} (m : MonoT tt) (hd : Hd K L F H S I) (sl : Slots K I σ ρ) (h : tt ρ S Q X0) (hx : XLe X0 (dnX K L F I W σ))
    (k : ∀ b S' H' I', Q b S' → Hd K L F H' S' I' → Same I I' → Slots K I' σ ρ → R b H') : lT K W tt σ H R :=
  ⟨L, F, S, I, ρ, hd, sl, m _ _ _ _ _ _ (fun y S' q H' I' h1 s => k y S' H' I' q h1 s (sl.mono s)) hx h⟩
theorem lS_then {K : PySem.W.Frag} {L : Lk} {F H I : Hp} {S : Sto} {ρ : Rho} {σ : L2.St} {D : L2.Ends} {D0 : UEnds} {X0 : XS} {us : US} (m : MonoS us) (hd : Hd K L F H S I) (sl : Slots K I σ ρ) (h : us D0 X0 ρ S) (hD : ULe D0 (dnD K L F I D)) (hx : XSLe X0 (dnXS K L F I W)) : lS K W us D σ H :=
  ⟨L, F, S, I, ρ, hd, sl, m _ _ _ _ _ _ hD hx h⟩
/-! ### names, constants -/
def uVar (i : Nat) : UE := fun ρ S Q _ => ∃ x : Tr, ρ[i]? = some (some x) ∧ Q x S
def uC (x : Tr) : UE := fun _ S Q _ => Q x S
theorem mono_var (i : Nat) : MonoE (uVar i) := fun _ _ _ _ _ _ hQ _ ⟨x, e, q⟩ => ⟨x, e, hQ _ _ q⟩
theorem mono_c (x : Tr) : MonoE (uC x) := fun _ _ _ _ _ _ hQ _ q => hQ _ _ q
theorem e_var (i : Nat) {x : Str} (hN : X.N[i]? = some x := by rfl) (hv : Vis X.env.scope x := by first | exact Or.inl rfl | exact Or.inr (Or.inl rfl) | exact Or.inr (Or.inr rfl)) (hd : (x == ("__debug__" : Str)) = false := by decide)
    (hcd : (x == ("__classdict__" : Str)) = false := by decide) : TPE X W (.Name x pos) (uVar i) :=
  ⟨wkE (pv i hN hv hd hcd) fun σ H R ⟨L, F, S, I, ρ, h, sl, y, ey, q⟩ => by
    obtain ⟨v, ev, r⟩ := sl.2 i y ey
    exact ⟨v, ev, q v H I h (Same.refl _) r⟩, mono_var i⟩
theorem e_const {v : V} {y : Tr} (h : PE X e (tC v)) (hy : ∀ I, Rep X.K I y v) : TPE X W e (uC y) :=
  ⟨wkE h fun σ H R ⟨L, F, S, I, ρ, hd, sl, q⟩ => q v H I hd (Same.refl _) (hy I), mono_c y⟩
theorem e_int {n : Int} {k : Nat} : TPE X W (.Constant (.int n) k pos) (uC (.int n)) := e_const pe_int fun _ => rfl
theorem e_bl {b : Bool} {k : Nat} : TPE X W (.Constant (.bool b) k pos) (uC (.bl b)) := e_const pe_bl fun _ => rfl
theorem e_non {k : Nat} : TPE X W (.Constant .none k pos) (uC .non) := e_const pe_non fun _ => rfl
theorem e_str {z : Str} {k : Nat} : TPE X W (.Constant (.str z) k pos) (uC (.str z)) := e_const pe_str fun _ => rfl
/-! ### two in a row -/
def u2 (ta tb : UE) (k : Tr → Tr → Sto → QV → QX → Prop) : UE := fun ρ S Q X => ta ρ S (fun x S1 => tb ρ S1 (fun y S2 => k x y S2 Q X) X) X
/-- an operation by what it gives; the cells stay -/
def uOp (g : Tr → Tr → Tr → Prop) (ta tb : UE) : UE := fun ρ S Q X => ta ρ S (fun x S1 => tb ρ S1 (fun y S2 => ∃ z, g (vw S2 x) (vw S2 y) z ∧ Q z S2) X) X
def uUn (g : Tr → Tr → Prop) (ta : UE) : UE := fun ρ S Q X => ta ρ S (fun x S1 => ∃ z, g (vw S1 x) z ∧ Q z S1) X
theorem mono_op {g : Tr → Tr → Tr → Prop} (ha : MonoE ta) (hb : MonoE tb) : MonoE (uOp g ta tb) := fun ρ S Q Q' X X' hQ hX h =>
  ha _ _ _ _ _ _ (fun x S1 h1 => hb _ _ _ _ _ _ (fun y S2 ⟨z, hg, q⟩ => ⟨z, hg, hQ _ _ q⟩) hX h1) hX h
/-- an operator, over trees -/
def OpT (K : PySem.W.Frag) (r : R2) (g : Tr → Tr → Tr → Prop) : Prop := ∀ {L : Lk} {F H : Hp} {S : Sto} {I : Hp} {x y z : Tr} {v w : V} {R : VK}, Hd K L F H S I → Rep K I x v → Rep K I y w → g (vw S x) (vw S y) z →
  (∀ v' H' I', Hd K L F H' S I' → Same I I' → Rep K I' z v' → R v' H') → r v w H R
theorem lOp {r : R2} {g : Tr → Tr → Tr → Prop} (s : OpT X.K r g) (ma : MonoE ta) (mb : MonoE tb) : ∀ σ H R, lE X.K W (uOp g ta tb) σ H R → tOp r (lE X.K W ta) (lE X.K W tb) σ H R := fun σ H R ⟨L, F, S, I, ρ, hd, sl, h⟩ =>
  lE_then ma hd sl h (fun _ _ _ _ h => h) fun x S1 v H1 I1 q1 hd1 s1 sl1 rx => lE_then mb hd1 sl1 q1 (dnX_up s1) fun y S2 w H2 I2 ⟨z, hg, q2⟩ hd2 s2 sl2 ry =>
    s hd2 (rx.mono s2) ry hg fun v' H' I' hd' s' r' => q2 v' H' I' hd' ((s1.trans s2).trans s') r'
theorem e_op {op : Operator} {r : R2} {g : Tr → Tr → Tr → Prop} (ho : OpR X (binaryOp op) r) (s : OpT X.K r g) (ha : TPE X W a ta) (hb : TPE X W b tb) : TPE X W (.BinOp a op b pos) (uOp g ta tb) :=
  ⟨wkE (pe_op ho ha.pe hb.pe) (lOp s ha.mono hb.mono), mono_op ha.mono hb.mono⟩
theorem e_cmp {op : CmpOp} {r : R2} {g : Tr → Tr → Tr → Prop} (ho : OpR X (compareOp op) r) (s : OpT X.K r g) (ha : TPE X W a ta) (hb : TPE X W b tb) (hm : behindInMarks op b = false) : TPE X W (.Compare a [op] [b] pos) (uOp g ta tb) :=
  ⟨wkE (pe_cmpR ho ha.pe hb.pe hm) (lOp s ha.mono hb.mono), mono_op ha.mono hb.mono⟩
theorem e_ix {r : R2} {g : Tr → Tr → Tr → Prop} (ho : IxR X r) (s : OpT X.K r g) (ha : TPE X W a ta) (hb : TPE X W b tb) (hs : PlainIx b) : TPE X W (.Subscript a b pos) (uOp g ta tb) :=
  ⟨wkE (pe_ix ho ha.pe hb.pe hs) (lOp s ha.mono hb.mono), mono_op ha.mono hb.mono⟩
/-! ### tests -/
def uB (te : UE) : UT := fun ρ S Q X => te ρ S (fun x S1 => ∃ k, x = .bl k ∧ Q k S1) X
theorem mono_b (h : MonoE te) : MonoT (uB te) := fun ρ S Q Q' X X' hQ hX q => h _ _ _ _ _ _ (fun x S1 ⟨k, e, q⟩ => ⟨k, e, hQ _ _ q⟩) hX q
theorem lB (m : MonoE te) : ∀ σ H R, lT X.K W (uB te) σ H R → lE X.K W te σ H (fun x H1 => ∃ k, x = .bl k ∧ R k H1) := fun σ H R ⟨L, F, S, I, ρ, hd, sl, h⟩ =>
  lE_then m hd sl h (fun _ _ _ _ h => h) fun x S1 v H1 I1 ⟨k, e, q⟩ hd1 s1 sl1 r => by subst e; exact ⟨k, r, q H1 I1 hd1 s1⟩
theorem t_val (h : TPE X W e te) (he : ∀ whole, isTrue e X.env whole = (do let v ← whole; standAt e.pos; holding [v] (truthy v)) := by intro _; rfl) : TPT X W e (uB te) :=
  ⟨wkT (pt_val h.pe he) (lB h.mono), mono_b h.mono⟩
theorem t_cmp {op : CmpOp} {r : R2} {g : Tr → Tr → Tr → Prop} (ho : OpR X (compareOp op) r) (s : OpT X.K r g) (ha : TPE X W a ta) (hb : TPE X W b tb) (hm : behindInMarks op b = false) : TPT X W (.Compare a [op] [b] pos) (uB (uOp g ta tb)) :=
  ⟨wkT (pt_cmpR ho ha.pe hb.pe hm) fun σ H R ⟨L, F, S, I, ρ, hd, sl, h⟩ => lOp s ha.mono hb.mono σ H _ (by
    obtain ⟨L', F', S', I', ρ', h1, h2, h3⟩ := lB (X := X) (W := W) (mono_op ha.mono hb.mono) σ H R ⟨L, F, S, I, ρ, hd, sl, h⟩
    exact ⟨L', F', S', I', ρ', h1, h2, h3⟩), mono_b (mono_op ha.mono hb.mono)⟩
def uAnd (t u : UT) : UT := fun ρ S Q X => t ρ S (fun c S1 => if c = true then u ρ S1 Q X else Q false S1) X
def uOr (t u : UT) : UT := fun ρ S Q X => t ρ S (fun c S1 => if c = true then Q true S1 else u ρ S1 Q X) X
def uNot (t : UT) : UT := fun ρ S Q X => t ρ S (fun c S1 => Q (!c) S1) X
section
variable {t u : UT} {rest : List Expr}
theorem mono_and (ht : MonoT t) (hu : MonoT u) : MonoT (uAnd t u) := fun ρ S Q Q' X X' hQ hX h => ht _ _ _ _ _ _ (fun c S1 h1 => by
  cases c with
  | true => rw [if_pos rfl] at h1 ⊢; exact hu _ _ _ _ _ _ hQ hX h1
  | false => rw [if_neg Bool.false_ne_true] at h1 ⊢; exact hQ _ _ h1) hX h
theorem mono_or (ht : MonoT t) (hu : MonoT u) : MonoT (uOr t u) := fun ρ S Q Q' X X' hQ hX h => ht _ _ _ _ _ _ (fun c S1 h1 => by
  cases c with
  | true => rw [if_pos rfl] at h1 ⊢; exact hQ _ _ h1
  | false => rw [if_neg Bool.false_ne_true] at h1 ⊢; exact hu _ _ _ _ _ _ hQ hX h1) hX h
theorem mono_not (ht : MonoT t) : MonoT (uNot t) := fun ρ S Q Q' X X' hQ hX h => ht _ _ _ _ _ _ (fun c S1 h1 => hQ _ _ h1) hX h
theorem w_and1 (ha : TPT X W a t) : TPW X W (.BoolOp .And [a] pos) t := ⟨pw_and1 ha.pe, ha.mono⟩
theorem w_or1 (ha : TPT X W a t) : TPW X W (.BoolOp .Or [a] pos) t := ⟨pw_or1 ha.pe, ha.mono⟩
theorem w_and (ha : TPT X W a t) (hb : TPW X W (.BoolOp .And (b :: rest) pos) u) : TPW X W (.BoolOp .And (a :: b :: rest) pos) (uAnd t u) :=
  ⟨wkW (pw_and ha.pe hb.pe) fun σ H R ⟨L, F, S, I, ρ, hd, sl, h⟩ => lT_then ha.mono hd sl h (fun _ _ _ _ h => h) fun c S1 H1 I1 q hd1 s1 sl1 => by
    cases c with
    | true => rw [if_pos rfl] at q ⊢; exact lT_then hb.mono hd1 sl1 q (dnX_up s1) fun c2 S2 H2 I2 q2 hd2 s2 sl2 => q2 H2 I2 hd2 (s1.trans s2)
    | false => rw [if_neg Bool.false_ne_true] at q ⊢; exact q H1 I1 hd1 s1, mono_and ha.mono hb.mono⟩
theorem w_or (ha : TPT X W a t) (hb : TPW X W (.BoolOp .Or (b :: rest) pos) u) : TPW X W (.BoolOp .Or (a :: b :: rest) pos) (uOr t u) :=
  ⟨wkW (pw_or ha.pe hb.pe) fun σ H R ⟨L, F, S, I, ρ, hd, sl, h⟩ => lT_then ha.mono hd sl h (fun _ _ _ _ h => h) fun c S1 H1 I1 q hd1 s1 sl1 => by
    cases c with
    | true => rw [if_pos rfl] at q ⊢; exact q H1 I1 hd1 s1
    | false => rw [if_neg Bool.false_ne_true] at q ⊢; exact lT_then hb.mono hd1 sl1 q (dnX_up s1) fun c2 S2 H2 I2 q2 hd2 s2 sl2 => q2 H2 I2 hd2 (s1.trans s2), mono_or ha.mono hb.mono⟩
theorem TPW.pt (h : TPW X W e t) : TPT X W e t := ⟨h.pe.pt, h.mono⟩
theorem t_not (ha : TPT X W a t) : TPT X W (.UnaryOp .Not a pos) (uNot t) :=
  ⟨wkT (pt_not ha.pe) fun σ H R ⟨L, F, S, I, ρ, hd, sl, h⟩ => lT_then ha.mono hd sl h (fun _ _ _ _ h => h) fun c S1 H1 I1 q hd1 s1 sl1 => q H1 I1 hd1 s1, mono_not ha.mono⟩
/-- and, or, not as values of truths -/
def uAndV (ta tb : UE) : UE := fun ρ S Q X => ta ρ S (fun x S1 => ∃ c, x = .bl c ∧ if c = true then tb ρ S1 Q X else Q (.bl false) S1) X
def uOrV (ta tb : UE) : UE := fun ρ S Q X => ta ρ S (fun x S1 => ∃ c, x = .bl c ∧ if c = true then Q (.bl true) S1 else tb ρ S1 Q X) X
def uNotV (ta : UE) : UE := fun ρ S Q X => ta ρ S (fun x S1 => ∃ c, x = .bl c ∧ Q (.bl (!c)) S1) X
theorem e_one {op} (h : TPE X W a ta) : TPE X W (.BoolOp op [a] pos) ta := ⟨pe_one h.pe, h.mono⟩
theorem e_and (ha : TPE X W a ta) (hb : TPE X W (.BoolOp .And (b :: rest) pos) tb) : TPE X W (.BoolOp .And (a :: b :: rest) pos) (uAndV ta tb) :=
  ⟨wkE (pe_and ha.pe hb.pe) fun σ H R ⟨L, F, S, I, ρ, hd, sl, h⟩ => lE_then ha.mono hd sl h (fun _ _ _ _ h => h) fun x S1 v H1 I1 ⟨c, e, q⟩ hd1 s1 sl1 r => by
    subst e
    refine ⟨c, r, ?_⟩
    cases c with
    | true => rw [if_pos rfl] at q ⊢; exact lE_then hb.mono hd1 sl1 q (dnX_up s1) fun y S2 w H2 I2 q2 hd2 s2 sl2 r2 => q2 w H2 I2 hd2 (s1.trans s2) r2
    | false => rw [if_neg Bool.false_ne_true] at q ⊢; exact q _ H1 I1 hd1 s1 rfl, fun ρ S Q Q' X X' hQ hX h => ha.mono _ _ _ _ _ _ (fun x S1 ⟨c, e, q⟩ => ⟨c, e, by
      cases c with
      | true => rw [if_pos rfl] at q ⊢; exact hb.mono _ _ _ _ _ _ hQ hX q
      | false => rw [if_neg Bool.false_ne_true] at q ⊢; exact hQ _ _ q⟩) hX h⟩
def uIf (t : UT) (ta tb : UE) : UE := fun ρ S Q X => t ρ S (fun c S1 => if c = true then ta ρ S1 Q X else tb ρ S1 Q X) X
end
/-! ### arguments, displays, calls of built-ins -/
def uNil : UA := fun _ S Q _ => Q [] S
def uCons (ta : UE) (tr : UA) : UA := fun ρ S Q X => ta ρ S (fun x S1 => tr ρ S1 (fun xs S2 => Q (x :: xs) S2) X) X
theorem a_nil : TPA X W [] uNil := ⟨wkA pa_nil fun σ H R ⟨L, F, S, I, ρ, hd, sl, h⟩ => h [] H I hd (Same.refl _) rfl, fun _ _ _ _ _ _ hQ _ h => hQ _ _ h⟩
theorem a_cons {tr : UA} (ha : TPE X W e te) (hr : TPA X W es tr) (hs : starEach (e :: es) X.env = (false, eval e X.env) :: starEach es X.env := by rfl) : TPA X W (e :: es) (uCons te tr) :=
  ⟨wkA (pa_cons ha.pe hr.pe hs) fun σ H R ⟨L, F, S, I, ρ, hd, sl, h⟩ => lE_then ha.mono hd sl h (fun _ _ _ _ h => h) fun x S1 v H1 I1 q hd1 s1 sl1 rx => lA_then hr.mono hd1 sl1 q (dnX_up s1) fun ys S2 ws H2 I2 q2 hd2 s2 sl2 ry =>
    q2 (v :: ws) H2 I2 hd2 (s1.trans s2) (.cons (rx.mono s2) ry), fun ρ S Q Q' X X' hQ hX h => ha.mono _ _ _ _ _ _ (fun x S1 q => hr.mono _ _ _ _ _ _ (fun xs S2 q => hQ _ _ q) hX q) hX h⟩
/-- a new list, a new tuple of the trees -/
def uTup (t : UA) : UE := fun ρ S Q X => t ρ S (fun xs S1 => xs.length ≤ sizeLine ∧ Q (.tup xs) S1) X
def uLst (t : UA) : UE := fun ρ S Q X => t ρ S (fun xs S1 => xs.length ≤ sizeLine ∧ Q (.lst xs) S1) X
/-- a new list that will change -/
def uLstC (t : UA) : UE := fun ρ S Q X => t ρ S (fun xs S1 => xs.length ≤ sizeLine ∧ ∀ p, S1 p = none → Q (.ref p) (put S1 p (.lst xs))) X
section
variable {tr : UA} {x1 : Nat}
theorem e_tup (h : TPA X W es tr) : TPE X W (.Tuple es x1 pos) (uTup tr) :=
  ⟨wkE (pe_tup h.pe) fun σ H R ⟨L, F, S, I, ρ, hd, sl, q⟩ => lA_then h.mono hd sl q (fun _ _ _ _ h => h) fun xs S1 vs H1 I1 ⟨z, q⟩ hd1 s1 sl1 r =>
    ⟨by rw [r.len]; exact z, fun p np => q _ _ _ (hd1.imm np) (s1.trans (upd_sub (hd1.freeI np))) ⟨p, vs, rfl, .inl (.inl upd_same), r.mono (upd_sub (hd1.freeI np))⟩⟩,
    fun ρ S Q Q' X X' hQ hX h' => h.mono _ _ _ _ _ _ (fun xs S1 ⟨z, q⟩ => ⟨z, hQ _ _ q⟩) hX h'⟩
theorem e_lst (h : TPA X W es tr) : TPE X W (.List es pos) (uLst tr) :=
  ⟨wkE (pe_lst h.pe) fun σ H R ⟨L, F, S, I, ρ, hd, sl, q⟩ => lA_then h.mono hd sl q (fun _ _ _ _ h => h) fun xs S1 vs H1 I1 ⟨z, q⟩ hd1 s1 sl1 r =>
    ⟨by rw [r.len]; exact z, fun p np => q _ _ _ (hd1.imm np) (s1.trans (upd_sub (hd1.freeI np))) ⟨p, vs, rfl, upd_same, r.mono (upd_sub (hd1.freeI np))⟩⟩,
    fun ρ S Q Q' X X' hQ hX h' => h.mono _ _ _ _ _ _ (fun xs S1 ⟨z, q⟩ => ⟨z, hQ _ _ q⟩) hX h'⟩
/-- a built-in by what it gives; the cells stay -/
def uCb (g : List Tr → Tr → Prop) (t : UA) : UE := fun ρ S Q X => t ρ S (fun xs S1 => ∃ z, g (xs.map (vw S1)) z ∧ Q z S1) X
theorem mono_cb {g : List Tr → Tr → Prop} (m : MonoA tr) : MonoE (uCb g tr) := fun ρ S Q Q' X X' hQ hX h => m _ _ _ _ _ _ (fun xs S1 ⟨z, hg, q⟩ => ⟨z, hg, hQ _ _ q⟩) hX h
def CallT (K : PySem.W.Frag) (r : List V → Hp → VK → Prop) (g : List Tr → Tr → Prop) : Prop := ∀ {L : Lk} {F H : Hp} {S : Sto} {I : Hp} {xs : List Tr} {z : Tr} {vs : List V} {R : VK}, Hd K L F H S I → RepL K I xs vs → g (xs.map (vw S)) z →
  (∀ v' H' I', Hd K L F H' S I' → Same I I' → Rep K I' z v' → R v' H') → r vs H R
theorem lCb {r : List V → Hp → VK → Prop} {g : List Tr → Tr → Prop} (s : CallT X.K r g) (m : MonoA tr) : ∀ σ H R, lE X.K W (uCb g tr) σ H R → tCB r (lA X.K W tr) σ H R := fun σ H R ⟨L, F, S, I, ρ, hd, sl, h⟩ =>
  lA_then m hd sl h (fun _ _ _ _ h => h) fun xs S1 vs H1 I1 ⟨z, hg, q⟩ hd1 s1 sl1 r => s hd1 r hg fun v' H' I' hd' s' r' => q v' H' I' hd' (s1.trans s') r'
theorem e_callB {id : String} {x : Str} {p : Pos} {r : List V → Hp → VK → Prop} {g : List Tr → Tr → Prop} (hc : CallR X (.builtin id) r) (s : CallT X.K r g) (hg : Gl X x) (hm : X.mg x = none) (hv : bootBuiltins x = some (.builtin id)) (ha : TPA X W (e :: es) tr) (hn : x ≠ "__name__" := by decide) (hdb : (x == ("__debug__" : Str)) = false := by decide)
    (he : starEach (e :: es) X.env = (false, eval e X.env) :: starEach es X.env := by rfl) (hpl : (backTo pos (starEach es X.env)).any (·.1) = false := by rfl) : TPE X W (.Call (.Name x p) (e :: es) [] pos) (uCb g tr) :=
  ⟨wkE (pe_callB hc hg hm hv ha.pe hn hdb he hpl) (lCb s ha.mono), mono_cb ha.mono⟩
theorem e_callTy {T : String} {x : Str} {p : Pos} {r : List V → Hp → VK → Prop} {g : List Tr → Tr → Prop} (hc : CallR X (.type T) r) (s : CallT X.K r g) (hg : Gl X x) (hm : X.mg x = none) (hv : bootBuiltins x = some (.type T)) (ha : TPA X W (e :: es) tr) (hn : x ≠ "__name__" := by decide) (hdb : (x == ("__debug__" : Str)) = false := by decide)
    (he : starEach (e :: es) X.env = (false, eval e X.env) :: starEach es X.env := by rfl) (hpl : (backTo pos (starEach es X.env)).any (·.1) = false := by rfl) : TPE X W (.Call (.Name x p) (e :: es) [] pos) (uCb g tr) :=
  ⟨wkE (pe_callTy hc hg hm hv ha.pe hn hdb he hpl) (lCb s ha.mono), mono_cb ha.mono⟩
end
end
end KQ
namespace KQ
open PySem PySem.Spec PyProof.Rows L2 TL KB
/-! ### targets of names -/
inductive Pat where
  | nm (i : Nat)
  | tp (ps : List Pat)
mutual
def patR : Pat → Tr → Rho → Option Rho
  | .nm i, x, ρ => some (ρ.set i (some x))
  | .tp ps, x, ρ => match x with
    | .tup xs => patsR ps xs ρ
    | _ => none
def patsR : List Pat → List Tr → Rho → Option Rho
  | [], xs, ρ => match xs with
    | [] => some ρ
    | _ => none
  | p :: ps, xs, ρ => match xs with
    | x :: xs => match patR p x ρ with
      | some ρ' => patsR ps xs ρ'
      | none => none
    | [] => none
end
mutual
def gPat (K : PySem.W.Frag) : Pat → TG
  | .nm i => gName i
  | .tp ps => gTup K ps.length (gPats K ps)
def gPats (K : PySem.W.Frag) : List Pat → TGs
  | [] => gNil
  | p :: ps => gCons (gPat K p) (gPats K ps)
end
mutual
def Pat.slots : Pat → List Nat
  | .nm i => [i]
  | .tp ps => patsSlots ps
def patsSlots : List Pat → List Nat
  | [] => []
  | p :: ps => p.slots ++ patsSlots ps
end
theorem wipe_at (σ : L2.St) (vs : List Nat) (i : Nat) : (wipe σ vs)[i]? = if i ∈ vs ∧ i < σ.length then some none else σ[i]? := by
  induction vs with
  | nil => simp [wipe]
  | cons v r ih =>
    show ((wipe σ r).set v none)[i]? = _
    by_cases h : v = i
    · subst h
      by_cases hl : v < σ.length
      · rw [List.getElem?_set_self (by rw [wipe_length]; exact hl), if_pos ⟨List.mem_cons_self .., hl⟩]
      · rw [if_neg (fun z => hl z.2), List.getElem?_eq_none (by rw [List.length_set, wipe_length]; omega), List.getElem?_eq_none (by omega)]
    · rw [List.getElem?_set_ne h, ih]
      by_cases hr : i ∈ r ∧ i < σ.length
      · rw [if_pos hr, if_pos ⟨List.mem_cons_of_mem _ hr.1, hr.2⟩]
      · rw [if_neg hr, if_neg (fun z => hr ⟨(List.mem_cons.mp z.1).resolve_left (fun e => h e.symm), z.2⟩)]
theorem wipe_set (σ : L2.St) {vs : List Nat} {i : Nat} {o : Option V} (h : i ∈ vs) : wipe (σ.set i o) vs = wipe σ vs := by
  apply List.ext_getElem?
  intro j
  rw [wipe_at, wipe_at, List.length_set]
  by_cases hj : j ∈ vs ∧ j < σ.length
  · rw [if_pos hj, if_pos hj]
  · rw [if_neg hj, if_neg hj]
    by_cases e : i = j
    · subst e
      have hl : ¬ i < σ.length := fun z => hj ⟨h, z⟩
      rw [List.getElem?_eq_none (by rw [List.length_set]; omega), List.getElem?_eq_none (by omega)]
    · rw [List.getElem?_set_ne e]
theorem wipe_wipe (σ : L2.St) (vs : List Nat) : wipe (wipe σ vs) vs = wipe σ vs := by
  apply List.ext_getElem?
  intro j
  rw [wipe_at, wipe_length]
  by_cases hj : j ∈ vs ∧ j < σ.length
  · rw [if_pos hj, wipe_at, if_pos hj]
  · rw [if_neg hj]
section
variable {K : PySem.W.Frag} {L : Lk} {F H I : Hp} {S : Sto}
mutual
theorem gPat_run (hd : Hd K L F H S I) : ∀ (p : Pat) {x : Tr} {v : V} {σ : L2.St} {ρ ρ2 : Rho} {Q : L2.St → Hp → Prop}, Rep K I x v → Slots K I σ ρ → patR p x ρ = some ρ2 →
    (∀ σ2, Slots K I σ2 ρ2 → (∀ vs, (∀ i ∈ p.slots, i ∈ vs) → wipe σ2 vs = wipe σ vs) → Q σ2 H) → gPat K p v σ H Q
  | .nm i, x, v, σ, ρ, ρ2, Q, r, sl, e, k => by
    have e' : some (ρ.set i (some x)) = some ρ2 := by simpa [patR] using e
    cases e'
    unfold gPat
    exact k _ (sl.set r) fun vs h => wipe_set σ (h i (by simp [Pat.slots]))
  | .tp ps, x, v, σ, ρ, ρ2, Q, r, sl, e, k => by
    unfold patR at e
    split at e
    · rename_i xs
      obtain ⟨a, vs, rfl, h1, h2⟩ := r
      unfold gPat
      have hl := gPats_len ps e
      exact ⟨a, vs, rfl, hd.sqT h1, by rw [h2.len, hl], gPats_run hd ps h2 sl e fun σ2 s2 w => k σ2 s2 fun vs h => w vs (by simpa [Pat.slots] using h)⟩
    · cases e
theorem gPats_run (hd : Hd K L F H S I) : ∀ (ps : List Pat) {xs : List Tr} {vs : List V} {σ : L2.St} {ρ ρ2 : Rho} {Q : L2.St → Hp → Prop}, RepL K I xs vs → Slots K I σ ρ → patsR ps xs ρ = some ρ2 →
    (∀ σ2, Slots K I σ2 ρ2 → (∀ vs, (∀ i ∈ patsSlots ps, i ∈ vs) → wipe σ2 vs = wipe σ vs) → Q σ2 H) → gPats K ps vs σ H Q
  | [], xs, vs, σ, ρ, ρ2, Q, r, sl, e, k => by
    unfold patsR at e
    split at e
    · cases e
      cases r
      unfold gPats
      exact ⟨rfl, k σ sl fun _ _ => rfl⟩
    · cases e
  | p :: ps, xs, vs, σ, ρ, ρ2, Q, r, sl, e, k => by
    unfold patsR at e
    split at e
    · rename_i x xs
      obtain ⟨v, ws, rfl, r1, r2⟩ := r
      split at e
      · rename_i ρ' e1
        unfold gPats
        refine ⟨v, ws, rfl, gPat_run hd p r1 sl e1 fun σ1 s1 w1 => gPats_run hd ps r2 s1 e fun σ2 s2 w2 => k σ2 s2 fun vs h => ?_⟩
        rw [w2 vs (fun i hi => h i (by simp [patsSlots, hi])), w1 vs (fun i hi => h i (by simp [patsSlots, hi]))]
      · cases e
    · cases e
theorem gPats_len : ∀ (ps : List Pat) {xs : List Tr} {ρ ρ2 : Rho}, patsR ps xs ρ = some ρ2 → xs.length = ps.length
  | [], xs, ρ, ρ2, e => by
    unfold patsR at e
    split at e
    · rfl
    · cases e
  | p :: ps, xs, ρ, ρ2, e => by
    unfold patsR at e
    split at e
    · rename_i x xs
      split at e
      · rename_i ρ' e1
        rw [List.length_cons, List.length_cons, gPats_len ps e]
      · cases e
    · cases e
end
end
/-! ### statements -/
section
variable {X : Cx} {W : WX} {a b e : Expr} {es : List Expr} {te : UE} {pos : Pos} {st : Stmt} {rest : List Stmt} {t u : US}
def uNext : US := fun D _ ρ S => D.nx ρ S
def uSeq (t u : US) : US := fun D X ρ S => t { D with nx := u D X } X ρ S
theorem ule_seq {u : US} {D D' : UEnds} {X X' : XS} (mu : MonoS u) (hD : ULe D D') (hX : XSLe X X') : ULe { D with nx := u D X } { D' with nx := u D' X' } := ⟨fun ρ S h => mu _ _ _ _ _ _ hD hX h, hD.2.1, hD.2.2.1, hD.2.2.2⟩
theorem mono_seq (mt : MonoS t) (mu : MonoS u) : MonoS (uSeq t u) := fun D D' X X' ρ S hD hX h => mt _ _ _ _ _ _ (ule_seq mu hD hX) hX h
theorem ss_nil : TPSs X W [] uNext := ⟨wkSs pss_nil fun D σ H ⟨L, F, S, I, ρ, hd, sl, h⟩ => h σ H I hd (Same.refl _) sl, fun _ _ _ _ _ _ hD _ h => hD.1 _ _ h⟩
def uBreak : US := fun D _ ρ S => D.bk ρ S
def uCont : US := fun D _ ρ S => D.ct ρ S
theorem lS_seq (mt : MonoS t) (mu : MonoS u) : ∀ D σ H, lS X.K W (uSeq t u) D σ H → lS X.K W t { D with nx := lS X.K W u D } σ H := fun D σ H ⟨L, F, S, I, ρ, hd, sl, h⟩ =>
  ⟨L, F, S, I, ρ, hd, sl, mt { dnD X.K L F I D with nx := u (dnD X.K L F I D) (dnXS X.K L F I W) } _ (dnXS X.K L F I W) _ _ _ ⟨fun ρ' S' q σ' H' I' hd' s' sl' => ⟨L, F, S', I', ρ', hd', sl', mu _ _ _ _ _ _ (dnD_up s') (dnXS_up s') q⟩, fun _ _ q => q, fun _ _ q => q, fun _ _ q => q⟩ (fun _ _ _ _ _ q => q) h⟩
theorem ss_cons (h1 : TPS X W st t) (h2 : TPSs X W rest u) : TPSs X W (st :: rest) (uSeq t u) := ⟨wkSs (pss_cons h1.pe h2.pe) (lS_seq h1.mono h2.mono), mono_seq h1.mono h2.mono⟩
theorem ss_one (h1 : TPS X W st t) : TPSs X W [st] t := ⟨pss_one h1.pe, h1.mono⟩
/-- what stands behind, under a name -/
structure CutT (u p : QS) : Prop where
  go : ∀ ρ S, u ρ S → p ρ S
def uCut (t u : US) : US := fun D X ρ S => ∀ p : QS, CutT (u D X) p → t { D with nx := p } X ρ S
theorem ss_cut (h1 : TPS X W st t) (h2 : TPSs X W rest u) : TPSs X W (st :: rest) (uCut t u) :=
  ⟨wkSs (ss_cons h1 h2).pe fun D σ H ⟨L, F, S, I, ρ, hd, sl, h⟩ => ⟨L, F, S, I, ρ, hd, sl, h _ ⟨fun _ _ q => q⟩⟩, fun D D' X X' ρ S hD hX h p hp => h1.mono { D with nx := p } _ X _ _ _ ⟨fun _ _ q => q, hD.2.1, hD.2.2.1, hD.2.2.2⟩ hX (h p ⟨fun ρ S q => hp.go _ _ (h2.mono _ _ _ _ _ _ hD hX q)⟩)⟩
def uDrop (te : UE) : US := fun D X ρ S => te ρ S (fun _ S1 => D.nx ρ S1) (atR X ρ)
theorem s_expr (he : TPE X W e te) (hs : swapsWith e none pos.line X.env = pure false := by rfl) : TPS X W (.Expr e pos) (uDrop te) :=
  ⟨wkS (ps_expr he.pe hs) fun D σ H ⟨L, F, S, I, ρ, hd, sl, h⟩ => lE_then he.mono hd sl h (dnXS_at sl) fun y S1 v H1 I1 q hd1 s1 sl1 r => q σ H1 I1 hd1 s1 sl1, fun D D' X X' ρ S hD hX h => he.mono _ _ _ _ _ _ (fun _ _ q => hD.1 _ _ q) (fun _ _ _ _ q => hX _ _ _ _ _ q) h⟩
def uRet (te : UE) : US := fun D X ρ S => te ρ S D.rt (atR X ρ)
theorem s_ret (he : TPE X W e te) : TPS X W (.Return (some e) pos) (uRet te) :=
  ⟨wkS (ps_ret he.pe) fun D σ H ⟨L, F, S, I, ρ, hd, sl, h⟩ => lE_then he.mono hd sl h (dnXS_at sl) fun y S1 v H1 I1 q hd1 s1 sl1 r => q v H1 I1 hd1 s1 r, fun D D' X X' ρ S hD hX h => he.mono _ _ _ _ _ _ (fun _ _ q => hD.2.1 _ _ q) (fun _ _ _ _ q => hX _ _ _ _ _ q) h⟩
def uRetN : US := fun D _ _ S => D.rt .non S
def uIfS (c : UT) (t u : US) : US := fun D X ρ S => c ρ S (fun b S1 => if b = true then t D X ρ S1 else u D X ρ S1) (atR X ρ)
theorem s_if {c : Expr} {a b : List Stmt} {tc : UT} (hc : TPT X W c tc) (ha : TPSs X W a t) (hb : TPSs X W b u) : TPS X W (.If c a b pos) (uIfS tc t u) :=
  ⟨wkS (ps_if hc.pe ha.pe hb.pe) fun D σ H ⟨L, F, S, I, ρ, hd, sl, h⟩ => lT_then hc.mono hd sl h (dnXS_at sl) fun c S1 H1 I1 q hd1 s1 sl1 => by
    cases c with
    | true => rw [if_pos rfl] at q ⊢; exact lS_then ha.mono hd1 sl1 q (dnD_up s1) (dnXS_up s1)
    | false => rw [if_neg Bool.false_ne_true] at q ⊢; exact lS_then hb.mono hd1 sl1 q (dnD_up s1) (dnXS_up s1), fun D D' X X' ρ S hD hX h => hc.mono _ _ _ _ _ _ (fun c S1 q => by
      cases c with
      | true => rw [if_pos rfl] at q ⊢; exact ha.mono _ _ _ _ _ _ hD hX q
      | false => rw [if_neg Bool.false_ne_true] at q ⊢; exact hb.mono _ _ _ _ _ _ hD hX q) (fun _ _ _ _ q => hX _ _ _ _ _ q) h⟩
def uNever : US := fun _ _ _ _ => False
/-- name = e -/
def uSet (i : Nat) (te : UE) : US := fun D X ρ S => te ρ S (fun x S1 => D.nx (ρ.set i (some x)) S1) (atR X ρ)
theorem mono_set {i : Nat} (m : MonoE te) : MonoS (uSet i te) := fun D D' X X' ρ S hD hX h => m _ _ _ _ _ _ (fun _ _ q => hD.1 _ _ q) (fun _ _ _ _ q => hX _ _ _ _ _ q) h
theorem lSet {i : Nat} (m : MonoE te) : ∀ D σ H, lS X.K W (uSet i te) D σ H → tAsg (lE X.K W te) (gName i) D σ H := fun D σ H ⟨L, F, S, I, ρ, hd, sl, h⟩ =>
  lE_then m hd sl h (dnXS_at sl) fun y S1 v H1 I1 q hd1 s1 sl1 r => q _ H1 I1 hd1 s1 (sl1.set r)
theorem s_set {i : Nat} {x : Str} {pos' : Pos} (hN : X.N.Nodup) (hi : X.N[i]? = some x) (hx : Loc X.env.scope x) (he : TPE X W e te) (hs : swapsWith e (some (.Name x pos')) pos.line X.env = pure false := by rfl) (hf : X.fn x = true ∨ X.env.scope.names.lookup x = some .local := by first | exact .inl rfl | exact .inr rfl | assumption) :
    TPS X W (.Assign [.Name x pos'] e pos) (uSet i te) := ⟨wkS (ps_set hN hi hx he.pe hs hf) (lSet he.mono), mono_set he.mono⟩
/-- a pattern = e -/
def uAsg (p : Pat) (te : UE) : US := fun D X ρ S => te ρ S (fun x S1 => ∃ ρ2, patR p x ρ = some ρ2 ∧ D.nx ρ2 S1) (atR X ρ)
theorem s_asg {tg : Expr} (p : Pat) (he : TPE X W e te) (hg : PG X tg (gPat X.K p)) (hs : swapsWithSole [tg] e pos.line X.env = pure false := by rfl) (hw : swappedStores [tg] e X.env = pure none := by rfl)
    (h1 : (assignEach [tg] X.env).map (·.2) = [assign tg X.env] := by rfl) : TPS X W (.Assign [tg] e pos) (uAsg p te) :=
  ⟨wkS (ps_asg he.pe hg hs hw h1) fun D σ H ⟨L, F, S, I, ρ, hd, sl, h⟩ => lE_then he.mono hd sl h (dnXS_at sl) fun y S1 v H1 I1 ⟨ρ2, e2, q⟩ hd1 s1 sl1 r =>
    gPat_run hd1 p r sl1 e2 fun σ2 sl2 _ => q σ2 H1 I1 hd1 s1 sl2, fun D D' X X' ρ S hD hX h => he.mono _ _ _ _ _ _ (fun _ _ ⟨ρ2, e2, q⟩ => ⟨ρ2, e2, hD.1 _ _ q⟩) (fun _ _ _ _ q => hX _ _ _ _ _ q) h⟩
/-- x, y = e1, e2 -/
def uPar (i j : Nat) (ta : UA) : US := fun D X ρ S => ta ρ S (fun xs S1 => ∃ x y, xs = [x, y] ∧ D.nx ((ρ.set i (some x)).set j (some y)) S1) (atR X ρ)
/-- name op= e -/
def uAug (i : Nat) (g : Tr → Tr → Tr → Prop) (te : UE) : US := fun D X ρ S => ∃ x : Tr, ρ[i]? = some (some x) ∧ te ρ S (fun y S1 => ∃ z, g (vw S1 x) (vw S1 y) z ∧ D.nx (ρ.set i (some z)) S1) (atR X ρ)
/-! ### for -/
def uLoop (ok : Sto → Prop) (p : Pat) (tb : US) (D : UEnds) (X : XS) : List Tr → Rho → Sto → Prop
  | [], ρ, S => ok S ∧ D.nx ρ S
  | x :: xs, ρ, S => ok S ∧ ∃ ρ2, patR p x ρ = some ρ2 ∧ tb { D with nx := uLoop ok p tb D X xs, ct := uLoop ok p tb D X xs, bk := D.nx } X ρ2 S
def uFor (ui : UI) (p : Pat) (tb : US) : US := fun D X ρ S => ui ρ S (fun wk S1 => uLoop wk.ok p tb D X wk.xs ρ S1) (atR X ρ)
theorem mono_loop {ok : Sto → Prop} {p : Pat} {tb : US} (mb : MonoS tb) {D D' : UEnds} {X X' : XS} (hD : ULe D D') (hX : XSLe X X') : ∀ (xs : List Tr) (ρ : Rho) (S : Sto), uLoop ok p tb D X xs ρ S → uLoop ok p tb D' X' xs ρ S
  | [], ρ, S, h => ⟨h.1, hD.1 _ _ h.2⟩
  | x :: xs, ρ, S, ⟨h1, ρ2, e, h⟩ => ⟨h1, ρ2, e, mb { D with nx := uLoop ok p tb D X xs, ct := uLoop ok p tb D X xs, bk := D.nx } _ X _ _ _ ⟨mono_loop mb hD hX xs, hD.2.1, hD.1, mono_loop mb hD hX xs⟩ hX h⟩
theorem mono_for {ui : UI} {p : Pat} {tb : US} (mi : MonoI ui) (mb : MonoS tb) : MonoS (uFor ui p tb) := fun D D' X X' ρ S hD hX h => mi _ _ _ _ _ _ (fun wk S1 q => mono_loop mb hD hX _ _ _ q) (fun _ _ _ _ q => hX _ _ _ _ _ q) h
theorem loop_run {K : PySem.W.Frag} {L : Lk} {F H1 I1 : Hp} {S1 : Sto} {ρ : Rho} {σ : L2.St} {wk : Walk} {p : Pat} {tb : US} {D : L2.Ends} {J : It} (mb : MonoS tb) (hd : Hd K L F H1 S1 I1) (sl : Slots K I1 σ ρ) (it : ItRep K L I1 J wk)
    (h : uLoop wk.ok p tb (dnD K L F I1 D) (dnXS K L F I1 W) wk.xs ρ S1) : ∃ Wv : Nat → Nat → L2.St → Hp → Prop, (∃ m, Wv 0 m σ H1) ∧ ∀ i m σ H, Wv i m σ H →
      (J.stop i H ∧ D.nx σ H) ∨ (J.go i H ∧ ∃ N : L2.St → Hp → Prop, (∀ σ' H', N σ' H' → ∃ m', m' < m ∧ Wv (i + 1) m' σ' H') ∧ ∀ x H', J.yld i H x H' → gPat K p x σ H' fun σ2 H2 => lS K W tb { D with nx := N, ct := N, bk := D.nx } σ2 H2) := by
  refine ⟨fun i m σ H => m = wk.xs.length - i ∧ i ≤ wk.xs.length ∧ ∃ S I' ρ, Hd K L F H S I' ∧ Same I1 I' ∧ Slots K I' σ ρ ∧ uLoop wk.ok p tb (dnD K L F I1 D) (dnXS K L F I1 W) (wk.xs.drop i) ρ S, ⟨_, rfl, Nat.zero_le _, S1, I1, ρ, hd, Same.refl _, sl, h⟩, ?_⟩
  rintro i m σ H ⟨rfl, hi, S, I', ρ, hd', s', sl', h'⟩
  by_cases hl : i < wk.xs.length
  · obtain ⟨x, ex⟩ : ∃ x, wk.xs[i]? = some x := ⟨_, List.getElem?_eq_getElem hl⟩
    have ed : wk.xs.drop i = x :: wk.xs.drop (i + 1) := by
      rw [List.drop_eq_getElem_cons hl]
      rw [List.getElem?_eq_getElem hl] at ex
      cases ex; rfl
    rw [ed] at h'
    obtain ⟨hok, ρ2, e2, hb⟩ := h'
    refine .inr ⟨it.go F i H S I' hd' s' hok hl, _, fun σ' H' n => ⟨wk.xs.length - (i + 1), by omega, n⟩, fun v H2 y => ?_⟩
    obtain ⟨I2, hd2, s2, r2⟩ := it.yld F i H S I' v H2 x hd' s' hok ex y
    refine gPat_run hd2 p r2 (sl'.mono s2) e2 fun σ2 sl2 _ => lS_then mb hd2 sl2 hb ⟨fun ρ3 S3 q σ3 H3 I3 hd3 s3 sl3 => ?_, dnV_up (s'.trans s2), dnS_up (s'.trans s2), fun ρ3 S3 q σ3 H3 I3 hd3 s3 sl3 => ?_⟩ (dnXS_up (s'.trans s2))
    · exact ⟨rfl, hl, S3, I3, ρ3, hd3, (s'.trans s2).trans s3, sl3, q⟩
    · exact ⟨rfl, hl, S3, I3, ρ3, hd3, (s'.trans s2).trans s3, sl3, q⟩
  · have e : i = wk.xs.length := by omega
    rw [List.drop_eq_nil_of_le (by omega)] at h'
    exact .inl ⟨it.stop F i H S I' hd' s' h'.1 e, h'.2 σ H I' hd' s' sl'⟩
theorem s_for {tg iter : Expr} {body : List Stmt} {ui : UI} {tb : US} (p : Pat) (hp : PassesOwn (model X.prog X.w) X.A X.env X.xe) (hc : X.calm = true) (hi : TPI X W tg iter ui) (hg : PG X tg (gPat X.K p)) (hb : TPSs X W body tb)
    (hs : ∀ x, foldedSetIterable iter X.env x = pure x := by intro _; rfl) : TPS X W (.For tg iter body [] pos) (uFor ui p tb) :=
  ⟨wkS (ps_for hp hc hi.pe hg hb.pe hs) fun D σ H ⟨L, F, S, I, ρ, hd, sl, h⟩ => ⟨L, F, S, I, ρ, hd, sl, hi.mono _ _ _ _ _ _ (fun wk S1 q J H1 I1 hd1 s1 it => loop_run hb.mono hd1 (sl.mono s1) it (mono_loop hb.mono (dnD_up s1) (dnXS_up s1) _ _ _ q)) (dnXS_at sl) h⟩, mono_for hi.mono hb.mono⟩
/-! ### while -/
end
/-! ### what is walked -/
section
variable {X : Cx} {W : WX} {tg l : Expr} {te : UE}
def asL : Tr → Option (List Tr)
  | .lst xs => some xs
  | .scr ns => some (ns.map Tr.int)
  | _ => none
/-- over a list, a tuple, the script -/
def uSeqI (te : UE) : UI := fun ρ S R X => te ρ S (fun x S1 => ∃ xs, (asL (vw S1 x) = some xs ∨ vw S1 x = .tup xs) ∧ R ⟨xs, fun S' => vw S' x = vw S1 x⟩ S1) X
theorem mono_seqI (m : MonoE te) : MonoI (uSeqI te) := fun ρ S Q Q' X X' hQ hX h => m _ _ _ _ _ _ (fun x S1 ⟨xs, e, q⟩ => ⟨xs, e, hQ _ _ q⟩) hX h
theorem asL_sq {K : PySem.W.Frag} {L : Lk} {F H I : Hp} {S : Sto} {x : Tr} {v : V} {xs : List Tr} (h : Hd K L F H S I) (r : Rep K I x v) (e : asL (vw S x) = some xs) : ∃ a vs, v = .ref a ∧ SqL K H a vs ∧ RepL K I xs vs := by
  cases z : vw S x with
  | lst ys =>
    rw [z] at e; cases e
    obtain ⟨a, vs, e1, e2, e3⟩ := vw_lst h r z
    exact ⟨a, vs, e1, .inl (.inl e2), e3⟩
  | scr ns =>
    rw [z] at e; cases e
    obtain ⟨a, e1, e2⟩ := vw_scr h r z
    exact ⟨a, _, e1, e2, RepL.ints ns⟩
  | _ => rw [z] at e; cases e
theorem i_seq (hl : TPE X W l te) : TPI X W tg l (uSeqI te) :=
  ⟨wkI (KB.pi_seq hl.pe) fun σ H R ⟨L, F, S, I, ρ, hd, sl, h⟩ => lE_then hl.mono hd sl h (fun _ _ _ _ h => h) fun x S1 v H1 I1 ⟨xs, e, q⟩ hd1 s1 sl1 r => by
    rcases e with e | e
    · obtain ⟨a, vs, rfl, h1, h2⟩ := asL_sq hd1 r e
      refine ⟨a, rfl, .inl ⟨⟨vs, h1⟩, q (Itl X.K a) H1 I1 hd1 s1 ⟨fun F i H S' I' hd' s' hok hi => ?_, fun F i H S' I' hd' s' hok hi => ?_, fun F i H S' I' w H' y hd' s' hok hi hy => ?_⟩⟩⟩
      · obtain ⟨b, ws, eb, h3, h4⟩ := asL_sq (x := x) hd' (r.mono s') (by rw [hok]; exact e)
        cases eb
        have hl : i < ws.length := by rw [h4.len]; exact hi
        exact ⟨ws, ws[i], h3, List.getElem?_eq_getElem hl⟩
      · obtain ⟨b, ws, eb, h3, h4⟩ := asL_sq (x := x) hd' (r.mono s') (by rw [hok]; exact e)
        cases eb
        exact ⟨ws, h3, by rw [h4.len]; show xs.length ≤ i; have : i = xs.length := hi; omega⟩
      · obtain ⟨b, ws, eb, h3, h4⟩ := asL_sq (x := x) hd' (r.mono s') (by rw [hok]; exact e)
        cases eb
        obtain ⟨rfl, hy⟩ := hy
        obtain ⟨u, eu, ru⟩ := h4.get' hi
        have := hy ws h3
        rw [eu] at this; cases this
        exact ⟨I', hd', Same.refl _, ru⟩
    · obtain ⟨a, vs, rfl, h1, h2⟩ := vw_tup hd1 r e
      refine ⟨a, rfl, .inr ⟨⟨vs, h1⟩, q (Itt X.K a) H1 I1 hd1 s1 ⟨fun F i H S' I' hd' s' hok hi => ?_, fun F i H S' I' hd' s' hok hi => ?_, fun F i H S' I' w H' y hd' s' hok hi hy => ?_⟩⟩⟩
      · obtain ⟨b, ws, eb, h3, h4⟩ := vw_tup (x := x) hd' (r.mono s') (by rw [hok]; exact e)
        cases eb
        have hl : i < ws.length := by rw [h4.len]; exact hi
        exact ⟨ws, ws[i], h3, List.getElem?_eq_getElem hl⟩
      · obtain ⟨b, ws, eb, h3, h4⟩ := vw_tup (x := x) hd' (r.mono s') (by rw [hok]; exact e)
        cases eb
        exact ⟨ws, h3, by rw [h4.len]; show xs.length ≤ i; have : i = xs.length := hi; omega⟩
      · obtain ⟨b, ws, eb, h3, h4⟩ := vw_tup (x := x) hd' (r.mono s') (by rw [hok]; exact e)
        cases eb
        obtain ⟨rfl, hy⟩ := hy
        obtain ⟨u, eu, ru⟩ := h4.get' hi
        have := hy ws h3
        rw [eu] at this; cases this
        exact ⟨I', hd', Same.refl _, ru⟩, mono_seqI hl.mono⟩
end
end KQ
namespace KQ
open PySem PySem.Spec PyProof.Rows L2 TL KB
theorem takes0N {X : Cx} : L2N.Takes X (fun _ _ _ _ => False) := fun _ _ x => by
  obtain ⟨_, _, _, _, _, _, _, _, _, _, _, _, _, _, _, _, z⟩ := x
  exact z.elim
theorem fun_okC {P : Program} {w : World} {K : PySem.W.Frag} {mg : Str → Option Value} {base : Heap} {CX : CXT} {x qual : Str} {st : Stmt} {f : Addr} {fd : FuncData} {N ps : List Str} {k : Nat} {sp : Sp} (F : Fun K x qual st f fd) (S : FnScope N ps (defScope st)) (len : ∀ vs H Q E, sp vs H Q E → vs.length = ps.length)
    (hbody : ∀ (cdv : Value) (A : Around) (outer : List Env) (s : Shared) (H : Hp) (vs : List V) (Q : VK) (E : XK), Room k (A.deeper (envOfC qual (defScope st) s.heap.objs.size f cdv)) → sp vs H Q E →
      ∃ t, PSs (cxOf CX P w K mg base N qual (defScope st) f cdv A outer s H E) (defBody st) t ∧ t { nx := fun _ H' => Q .non H', rt := Q } (start N vs) H) : FnOk P w K mg base CX (k + 1) f fd ps sp := by
  obtain ⟨oc, od, kV, doc, pm, an, cdv, ct, osl, rfl, lk, hcd⟩ := F.ex
  exact fn_of lk hcd S len fun A outer s H vs Q E hr hsp => hbody cdv A outer s H vs Q E hr hsp
/-! ### freezing: cells become trees -/
mutual
inductive Res (G : Addr → Prop) (S : Sto) : Tr → Tr → Prop
  | self (x : Tr) : Res G S x x
  | cell {a : Addr} {c y : Tr} (g : G a) (e : S a = some c) (r : Res G S c y) : Res G S (.ref a) y
  | lst {xs ys : List Tr} (r : ResL G S xs ys) : Res G S (.lst xs) (.lst ys)
  | tup {xs ys : List Tr} (r : ResL G S xs ys) : Res G S (.tup xs) (.tup ys)
  | dic {ks : List Key} {xs ys : List Tr} (r : ResL G S xs ys) : Res G S (.dic ks xs) (.dic ks ys)
  | ins {C : Addr} {fs : List Str} {xs ys : List Tr} (r : ResL G S xs ys) : Res G S (.ins C fs xs) (.ins C fs ys)
inductive ResL (G : Addr → Prop) (S : Sto) : List Tr → List Tr → Prop
  | nil : ResL G S [] []
  | cons {x y : Tr} {xs ys : List Tr} (r : Res G S x y) (t : ResL G S xs ys) : ResL G S (x :: xs) (y :: ys)
end
theorem ResL.len {G : Addr → Prop} {S : Sto} : ∀ {xs ys : List Tr}, ResL G S xs ys → ys.length = xs.length
  | _, _, .nil => rfl
  | _, _, .cons r t => by rw [List.length_cons, List.length_cons, t.len]
section
variable {K : PySem.W.Frag} {L : Lk} {F H I : Hp} {S : Sto} {G : Addr → Prop}
open Classical in
/-- the trees' part with what is frozen -/
noncomputable def thaw (H I : Hp) (G : Addr → Prop) : Hp := fun b => if G b then H b else I b
theorem thaw_same (hd : Hd K L F H S I) (g : ∀ a, G a → ∃ c, S a = some c) : Same I (thaw H I G) := fun b o e => by
  unfold thaw
  rw [if_neg]
  · exact e
  · intro z
    obtain ⟨c, ec⟩ := g b z
    rw [(hd.cel b c ec).1] at e
    cases e
mutual
theorem Res.rep (hd : Hd K L F H S I) (g : ∀ a, G a → ∃ c, S a = some c) : ∀ {x y : Tr}, Res G S x y → (∀ v, Rep K I x v → Rep K (thaw H I G) y v) ∧ (∀ a o, CRep K I x o → thaw H I G a = some o → Rep K (thaw H I G) y (.ref a))
  | _, _, .self x => ⟨fun v r => r.mono (thaw_same hd g), fun a o r e => by
      cases x with
      | lst xs => obtain ⟨vs, rfl, h⟩ := r; exact ⟨a, vs, rfl, e, h.mono (thaw_same hd g)⟩
      | dic ks xs => obtain ⟨vs, rfl, l, h⟩ := r; exact ⟨a, vs, rfl, e, l, h.mono (thaw_same hd g)⟩
      | ins C fs xs => obtain ⟨dx, vs, rfl, l, h⟩ := r; exact ⟨a, dx, vs, rfl, e, l, h.mono (thaw_same hd g)⟩
      | opq q => cases r; exact ⟨a, rfl, e⟩
      | sem c => exact ⟨a, o, rfl, e, fun I2 s2 => r I2 a ((thaw_same hd g).trans s2)⟩
      | _ => exact r.elim⟩
  | _, _, .cell (a := a) (c := c) ga ea rc => ⟨fun v r => by
      cases r
      obtain ⟨_, _, o, ho, hc⟩ := hd.cel a c ea
      exact (Res.rep hd g rc).2 a o hc (by unfold thaw; rw [if_pos ga]; exact ho), fun b o r e => r.elim⟩
  | _, _, .lst rl => ⟨fun v r => by
      obtain ⟨a, vs, rfl, h1, h2⟩ := r
      exact ⟨a, vs, rfl, thaw_same hd g _ _ h1, ResL.rep hd g rl vs h2⟩, fun a o r e => by
      obtain ⟨vs, rfl, h⟩ := r
      exact ⟨a, vs, rfl, e, ResL.rep hd g rl vs h⟩⟩
  | _, _, .tup rl => ⟨fun v r => by
      obtain ⟨a, vs, rfl, h1, h2⟩ := r
      exact ⟨a, vs, rfl, sqT_mono (thaw_same hd g) h1, ResL.rep hd g rl vs h2⟩, fun a o r e => r.elim⟩
  | _, _, .dic rl => ⟨fun v r => by
      obtain ⟨a, vs, rfl, h1, h2, h3⟩ := r
      exact ⟨a, vs, rfl, thaw_same hd g _ _ h1, h2.trans rl.len.symm, ResL.rep hd g rl vs h3⟩, fun a o r e => by
      obtain ⟨vs, rfl, l, h⟩ := r
      exact ⟨a, vs, rfl, e, l.trans rl.len.symm, ResL.rep hd g rl vs h⟩⟩
  | _, _, .ins rl => ⟨fun v r => by
      obtain ⟨a, dx, vs, rfl, h1, h2, h3⟩ := r
      exact ⟨a, dx, vs, rfl, thaw_same hd g _ _ h1, h2.trans rl.len.symm, ResL.rep hd g rl vs h3⟩, fun a o r e => by
      obtain ⟨dx, vs, rfl, l, h⟩ := r
      exact ⟨a, dx, vs, rfl, e, l.trans rl.len.symm, ResL.rep hd g rl vs h⟩⟩
theorem ResL.rep (hd : Hd K L F H S I) (g : ∀ a, G a → ∃ c, S a = some c) : ∀ {xs ys : List Tr}, ResL G S xs ys → ∀ vs, RepL K I xs vs → RepL K (thaw H I G) ys vs
  | _, _, .nil, vs, h => h
  | _, _, .cons r t, vs, h => by
    obtain ⟨v, ws, rfl, h1, h2⟩ := h
    exact ⟨v, ws, rfl, (Res.rep hd g r).1 v h1, ResL.rep hd g t ws h2⟩
end
theorem Hd.thawed {S' : Sto} (hd : Hd K L F H S I) (g : ∀ a, G a → ∃ c, S a = some c) (s : ∀ a c, S' a = some c → S a = some c ∧ ¬ G a) : Hd K L F H S' (thaw H I G) := by
  have sm := thaw_same (G := G) hd g
  have low : ∀ b o, thaw H I G b = some o → (G b ∧ H b = some o) ∨ (¬ G b ∧ I b = some o) := fun b o e => by
    unfold thaw at e
    split at e
    · rename_i z; exact .inl ⟨z, e⟩
    · rename_i z; exact .inr ⟨z, e⟩
  refine ⟨fun b o e => ?_, fun b od e => ?_, fun a c e => ?_, fun b o e => ?_⟩
  · rcases low b o e with ⟨z, e⟩ | ⟨z, e⟩
    · obtain ⟨c, ec⟩ := g b z
      rw [hd.lkN (hd.cel b c ec).1]
      exact e
    · exact hd.sub b o e
  · obtain ⟨k, e⟩ := hd.lck b od e
    exact ⟨k, sm _ _ e⟩
  · obtain ⟨e1, ng⟩ := s a c e
    obtain ⟨h1, h2, o, h3, h4⟩ := hd.cel a c e1
    exact ⟨by unfold thaw; rw [if_neg ng]; exact h1, h2, o, h3, h4.mono sm⟩
  · obtain ⟨h1, h2⟩ := hd.fra b o e
    refine ⟨h1, ?_⟩
    cases q : thaw H I G b with
    | none => rfl
    | some u =>
      rcases low b u q with ⟨z, _⟩ | ⟨_, z⟩
      · obtain ⟨c, ec⟩ := g b z
        rw [(hd.cel b c ec).2.1] at e
        cases e
      · rw [h2] at z; cases z
end
def Frz (y : Tr) (S : Sto) (y' : Tr) (S' : Sto) : Prop := ∃ G : Addr → Prop, Res G S y y' ∧ (∀ a c, S' a = some c → S a = some c ∧ ¬ G a) ∧ ∀ a, G a → ∃ c, S a = some c
def Closed (Q : QV) : Prop := ∀ y S y' S', Frz y S y' S' → Q y' S' → Q y S
def Sub (S' S : Sto) : Prop := ∀ a c, S' a = some c → S a = some c
def ClosedX (X : QX) : Prop := ∀ c fs xs S S', Sub S' S → X c fs xs S' → X c fs xs S
theorem dnV_closed {K : PySem.W.Frag} {L : Lk} {F I : Hp} {R : VK} : Closed (dnV K L F I R) := fun y S y' S' ⟨G, r, s, g⟩ q v H' I' hd sm rp =>
  q v H' (thaw H' I' G) (hd.thawed g s) (sm.trans (thaw_same hd g)) ((r.rep hd g).1 v rp)
/-- a cell that goes out as a tree -/
theorem Frz.one {S S' : Sto} {a : Addr} {c : Tr} (e : S a = some c) (s : Sub S' S) (n : S' a = none) : Frz (.ref a) S c S' :=
  ⟨fun b => b = a, .cell rfl e (.self c), fun b d h => ⟨s b d h, fun z => by subst z; rw [n] at h; cases h⟩, fun b z => ⟨c, by rw [z]; exact e⟩⟩
theorem Frz.drop {S S' : Sto} {y : Tr} (s : Sub S' S) : Frz y S y S' := ⟨fun _ => False, .self y, fun b d h => ⟨s b d h, fun z => z⟩, fun _ z => z.elim⟩
theorem Closed.one {Q : QV} {S S' : Sto} {a : Addr} {c : Tr} (h : Closed Q) (e : S a = some c) (s : Sub S' S) (n : S' a = none) (q : Q c S') : Q (.ref a) S := h _ _ _ _ (Frz.one e s n) q
theorem Closed.drop {Q : QV} {S S' : Sto} {y : Tr} (h : Closed Q) (s : Sub S' S) (q : Q y S') : Q y S := h _ _ _ _ (Frz.drop s) q
theorem Sub.noneAt {S' S : Sto} (s : Sub S' S) {d : Addr} (h : S d = none) : S' d = none := by
  cases e : S' d with
  | none => rfl
  | some c => rw [s d c e] at h; cases h
theorem Sub.refl (S : Sto) : Sub S S := fun _ _ h => h
theorem Sub.new {S S' : Sto} {p : Addr} {c : Tr} (s : Sub S' S) (n : S' p = none) : Sub S' (put S p c) := fun a d e => by
  have hn : a ≠ p := fun z => by subst z; rw [n] at e; cases e
  rw [put_ne hn]; exact s a d e
theorem Sub.both {S S' : Sto} {p : Addr} {c : Tr} (s : Sub S' S) : Sub (put S' p c) (put S p c) := fun a d e => by
  by_cases h : a = p
  · subst h; rw [put_same] at e ⊢; exact e
  · rw [put_ne h] at e ⊢; exact s a d e
/-! ### promises over trees -/
abbrev TSp := List Tr → Sto → QV → QX → Prop
def MonoSp (t : TSp) : Prop := ∀ xs S (Q Q' : QV) (X X' : QX), (∀ y S, Q y S → Q' y S) → XLe X X' → t xs S Q X → t xs S Q' X'
def lSp (K : PySem.W.Frag) (t : TSp) : Sp := fun vs H Q E => ∃ L F S I xs, Hd K L F H S I ∧ RepL K I xs vs ∧ t xs S (dnV K L F I Q) (dnX K L F I (fun c d _ H => E c d H) [])
structure CalleeT (P : Program) (w : World) (K : PySem.W.Frag) (mg : Str → Option Value) (base : Heap) (k : Nat) (x : Str) (ps : List Str) (t : TSp) : Prop where
  ex : ∃ (f : Addr) (fd : FuncData), mg x = some (.ref f) ∧ PySem.W.keepIn K (.ref f) = true ∧ Binds K fd ps [] ∧ FnOk P w K mg base (L2N.CX P w) k f fd ps (lSp K t) ∧ ∃ oc od osl, K.lookup f = some ⟨oc, od, .func fd, osl⟩
  mono : MonoSp t
def startT (N : List Str) (xs : List Tr) : Rho := xs.map some ++ List.replicate (N.length - xs.length) none
theorem slots_start {K : PySem.W.Frag} {I : Hp} {N : List Str} {xs : List Tr} {vs : List V} (r : RepL K I xs vs) : Slots K I (start N vs) (startT N xs) := by
  refine ⟨by simp [L2.start, startT, r.len], fun i x e => ?_⟩
  unfold startT at e
  unfold L2.start
  by_cases hi : i < xs.length
  · rw [List.getElem?_append_left (by simpa using hi), List.getElem?_map] at e
    rw [List.getElem?_append_left (by simpa [r.len] using hi), List.getElem?_map]
    cases z : xs[i]? with
    | none => rw [z] at e; cases e
    | some y =>
      rw [z] at e
      cases e
      obtain ⟨v, ev, rv⟩ := r.get' z
      exact ⟨v, by rw [ev]; rfl, rv⟩
  · rw [List.getElem?_append_right (by simpa using hi)] at e
    rw [List.getElem?_replicate] at e
    split at e <;> cases e
section
variable {P : Program} {w : World} {K : PySem.W.Frag} {mg : Str → Option Value} {base : Heap}
/-- the end of a def's body -/
def endU (Q : QV) : UEnds := ⟨fun _ S' => Q .non S', Q, fun _ _ => False, fun _ _ => False⟩
def endX (X : QX) : XS := fun c fs xs _ S' => X c fs xs S'
theorem body_ok {st : Stmt} {N : List Str} {tsp : TSp} {us : US} {X : Cx} {L : Lk} {F H I : Hp} {S : Sto} {xs : List Tr} {vs : List V} {Q : VK} {E : XK} (m : MonoS us) (hd : Hd K L F H S I) (r : RepL K I xs vs)
    (h : us (endU (dnV K L F I Q)) (endX (dnX K L F I (fun c d _ H => E c d H) [])) (startT N xs) S) : lS K (fun cls d _ H => E cls d H) us { nx := fun _ H' => Q .non H', rt := Q } (start N vs) H :=
  lS_then m hd (slots_start r) h ⟨fun ρ S' q σ' H' I' hd' s' sl' => q .non H' I' hd' s' rfl, fun _ _ q => q, fun _ _ q => q.elim, fun _ _ q => q.elim⟩ (fun c fs xs ρ S' q d σ' H' I' hd' s' sl' x => q d H' I' hd' s' x)
theorem Def.okT {x : Str} {st : Stmt} {N ps : List Str} {k : Nat} {tsp : TSp} {us : US} (D : Def K mg x st) (S : FnScope N ps (defScope st))
    (hb : ∀ (kV doc pm : Value) (an : Option Addr) (cdv ct : Value) (us : List Value), us.length = ps.length → bindArgs (PySem.W.fnOf x x (defArgs st) (defBody st) (defScope st) .none kV doc pm an cdv ct) ⟨us, []⟩ = pure (ps.zip us))
    (len : ∀ xs S Q X, tsp xs S Q X → xs.length = ps.length) (mono : MonoSp tsp)
    (body : ∀ (f : Addr) (cdv : Value) (A : Around) (outer : List Env) (s : Shared) (H : Hp) (E : XK), Room k (A.deeper (envOfC x (defScope st) s.heap.objs.size f cdv)) → L2N.Takes (cxOf (L2N.CX P w) P w K mg base N x (defScope st) f cdv A outer s H E) (fun cls d _ H => E cls d H) →
      PassesOwn (model P w) (cxOf (L2N.CX P w) P w K mg base N x (defScope st) f cdv A outer s H E).A (cxOf (L2N.CX P w) P w K mg base N x (defScope st) f cdv A outer s H E).env (cxOf (L2N.CX P w) P w K mg base N x (defScope st) f cdv A outer s H E).xe →
      TPSs (cxOf (L2N.CX P w) P w K mg base N x (defScope st) f cdv A outer s H E) (fun cls d _ H => E cls d H) (defBody st) us)
    (h : ∀ xs S Q X, Closed Q → ClosedX X → tsp xs S Q X → us (endU Q) (endX X) (startT N xs) S) : CalleeT P w K mg base (k + 1) x ps tsp := by
  obtain ⟨f, fd, Fn, g⟩ := D.ex
  have E := Fn.ex
  obtain ⟨oc, od, kV, doc, pm, an, cdv, ct, osl, e, lk, _⟩ := E
  refine ⟨⟨f, fd, g, Fn.kp, Fn.binds hb, fun_okC Fn S (fun vs H Q E ⟨_, _, _, _, xs, _, r, q⟩ => by rw [r.len]; exact len _ _ _ _ q) fun cdv A outer s H vs Q E hr ⟨L, F, S0, I, xs, hd, r, q⟩ => ?_, oc, od, osl, lk⟩, mono⟩
  have B := body f cdv A outer s H E hr (L2N.takes_of rfl rfl rfl rfl) (passes_of rfl)
  exact ⟨_, B.pe, body_ok (st := st) (tsp := tsp) (X := cxOf (L2N.CX P w) P w K mg base N x (defScope st) f cdv A outer s H E) B.mono hd r (h xs S0 _ _ dnV_closed (fun c fs ys S S' sb z d H' I' hd' s' ⟨vs, h1, h2, h3, h4, h5, h6⟩ => z d H' I' (hd'.fewer sb) s' ⟨vs, h1, h2, h3, h4, sb.noneAt h5, h6⟩) q)⟩
theorem CalleeT.imp {k : Nat} {x : Str} {ps : List Str} {t t' : TSp} (C : CalleeT P w K mg base k x ps t) (m : MonoSp t') (h : ∀ xs S Q X, Closed Q → t' xs S Q X → t xs S Q X) : CalleeT P w K mg base k x ps t' := by
  obtain ⟨⟨f, fd, g, kp, b, F, lk⟩, _⟩ := C
  exact ⟨⟨f, fd, g, kp, b, F.imp fun vs H Q E ⟨L, F, S, I, xs, hd, r, q⟩ => ⟨L, F, S, I, xs, hd, r, h _ _ _ _ dnV_closed q⟩, lk⟩, m⟩
end
/-! ### calls -/
section
variable {X : Cx} {W : WX} {e : Expr} {es : List Expr} {tr : UA} {pos p : Pos} {k : Nat} {x : Str} {ps : List Str} {tsp : TSp}
def uCall (tsp : TSp) (t : UA) : UE := fun ρ S Q X => t ρ S (fun xs S1 => tsp xs S1 Q X) X
theorem mono_call (ms : MonoSp tsp) (m : MonoA tr) : MonoE (uCall tsp tr) := fun ρ S Q Q' X X' hQ hX h => m _ _ _ _ _ _ (fun xs S1 q => ms _ _ _ _ _ _ hQ hX q) hX h
theorem lCall (ms : MonoSp tsp) (m : MonoA tr) : ∀ σ H R, lE X.K W (uCall tsp tr) σ H R → tCallS (lSp X.K tsp) (WE W) (lA X.K W tr) σ H R := fun σ H R ⟨L, F, S, I, ρ, hd, sl, h⟩ =>
  lA_then m hd sl h (fun _ _ _ _ h => h) fun xs S1 vs H1 I1 q hd1 s1 sl1 r => ⟨L, F, S1, I1, xs, hd1, r, ms _ _ _ _ _ _ (dnV_up s1) (dnX_up s1) q⟩
theorem e_call (C : CalleeT X.prog X.w X.K X.mg X.base k x ps tsp) (hr : Room k X.A) (hg : Gl X x) (tk : L2N.Takes X W) (ha : TPA X W (e :: es) tr) (hdb : (x == ("__debug__" : Str)) = false := by decide)
    (he : starEach (e :: es) X.env = (false, eval e X.env) :: starEach es X.env := by rfl) (hpl : (backTo pos (starEach es X.env)).any (·.1) = false := by rfl) : TPE X W (.Call (.Name x p) (e :: es) [] pos) (uCall tsp tr) := by
  obtain ⟨⟨f, fd, g, kp, b, F, _⟩, ms⟩ := C
  exact ⟨wkE (pe_callS F hr hg g kp b (fun σ => L2N.passAt tk σ) ha.pe hdb he hpl) (lCall ms ha.mono), mono_call ms ha.mono⟩
end
/-! ### list comprehensions -/
section
variable {X : Cx} {W : WX}
abbrev W0 : WX := fun _ _ _ _ => False
abbrev X0 : QX := fun _ _ _ _ => False
structure TPTs (X : Cx) (ifs : List Expr) (t : UT) : Prop where
  pe : PTs X ifs (lT X.K W0 t)
  mono : MonoT t
def uYes : UT := fun _ S Q _ => Q true S
theorem ts_nil : TPTs X [] uYes := ⟨⟨fun pins s σ H Q I h => pts_nil.run pins s σ H Q I (by
  obtain ⟨L, F, S, I', ρ, hd, sl, q⟩ := h
  exact q H I' hd (Same.refl _))⟩, fun _ _ _ _ _ _ hQ _ h => hQ _ _ h⟩
def uLcL (ok : Sto → Prop) (p : Pat) (tt : UT) (te : UE) (ρ : Rho) (Q : QV) : List Tr → List Tr → Sto → Prop
  | [], acc, S => ok S ∧ Q (.lst acc) S
  | x :: xs, acc, S => ok S ∧ ∃ ρ2, patR p x ρ = some ρ2 ∧ tt ρ2 S (fun b S3 => if b = true then te ρ2 S3 (fun y S4 => acc.length < sizeLine ∧ uLcL ok p tt te ρ Q xs (acc ++ [y]) S4) X0 else uLcL ok p tt te ρ Q xs acc S3) X0
def uLc (ui : UI) (p : Pat) (tt : UT) (te : UE) (vs : List Nat) : UE := fun ρ S Q X => ui ρ S (fun wk S1 => uLcL wk.ok p tt te (wipeR ρ vs) Q wk.xs [] S1) X
theorem mono_lcL {ok : Sto → Prop} {p : Pat} {tt : UT} {te : UE} {ρ : Rho} {Q Q' : QV} (mt : MonoT tt) (me : MonoE te) (hQ : ∀ y S, Q y S → Q' y S) : ∀ (xs acc : List Tr) (S : Sto), uLcL ok p tt te ρ Q xs acc S → uLcL ok p tt te ρ Q' xs acc S
  | [], acc, S, h => ⟨h.1, hQ _ _ h.2⟩
  | x :: xs, acc, S, ⟨h1, ρ2, e, h⟩ => ⟨h1, ρ2, e, mt _ _ _ _ _ _ (fun b S3 q => by
      cases b with
      | true => rw [if_pos rfl] at q ⊢; exact me _ _ _ _ _ _ (fun y S4 ⟨z, q⟩ => ⟨z, mono_lcL mt me hQ xs _ _ q⟩) (fun _ _ _ _ q => q) q
      | false => rw [if_neg Bool.false_ne_true] at q ⊢; exact mono_lcL mt me hQ xs _ _ q) (fun _ _ _ _ q => q) h⟩
theorem mono_lc {ui : UI} {p : Pat} {tt : UT} {te : UE} {vs : List Nat} (mi : MonoI ui) (mt : MonoT tt) (me : MonoE te) : MonoE (uLc ui p tt te vs) := fun ρ S Q Q' X X' hQ hX h => mi _ _ _ _ _ _ (fun wk S1 q => mono_lcL mt me hQ _ _ _ q) hX h
theorem x0_le {K : PySem.W.Frag} {L : Lk} {F I : Hp} {σ : L2.St} : XLe X0 (dnX K L F I W0 σ) := fun _ _ _ _ q => q.elim
theorem lc_runG {K : PySem.W.Frag} {L : Lk} {F H1 I1 : Hp} {S1 : Sto} {ρ : Rho} {σ : L2.St} {wk : Walk} {p : Pat} {tt : UT} {te : UE} {vs : List Nat} {Q : VK} {Qu : QV} {J : It} {D : Addr} (mt : MonoT tt) (me : MonoE te) (hv : ∀ i ∈ p.slots, i ∈ vs) (hd : Hd K L F H1 S1 I1) (sl : Slots K I1 σ ρ) (it : ItRep K L I1 J wk) (nD : H1 D = none)
    (h : uLcL wk.ok p tt te (wipeR ρ vs) Qu wk.xs [] S1) (hq : ∀ acc accv S H I', Hd K L (upd F D (.lst accv)) H S I' → Same I1 I' → RepL K I' acc accv → Qu (.lst acc) S → Q (.ref D) H) : ∃ Wv : Nat → Nat → Hp → Prop, (∃ m, Wv 0 m (upd H1 D (.lst []))) ∧ ∀ i m H, Wv i m H →
      (J.stop i H ∧ Q (.ref D) H) ∨ (J.go i H ∧ ∃ Nx : Hp → Prop, (∀ H', Nx H' → ∃ m', m' < m ∧ Wv (i + 1) m' H') ∧ ∀ x H', J.yld i H x H' → gPat K p x (wipe σ vs) H' fun σ2 H2 => wipe σ2 vs = wipe σ vs ∧ lT K W0 tt σ2 H2 fun b H3 =>
        if b = true then lE K W0 te σ2 H3 fun y H4 => ∃ acc, H4 D = some (.lst acc) ∧ acc.length < sizeLine ∧ Nx (upd H4 D (.lst (acc ++ [y]))) else Nx H3) := by
  refine ⟨fun i m H => m = wk.xs.length - i ∧ i ≤ wk.xs.length ∧ ∃ acc accv S I', Hd K L (upd F D (.lst accv)) H S I' ∧ Same I1 I' ∧ RepL K I' acc accv ∧ uLcL wk.ok p tt te (wipeR ρ vs) Qu (wk.xs.drop i) acc S,
    ⟨_, rfl, Nat.zero_le _, [], [], S1, I1, hd.frame nD, Same.refl _, rfl, h⟩, ?_⟩
  rintro i m H ⟨rfl, hi, acc, accv, S, I', hd', s', ra, h'⟩
  have fD : F D = none := hd.freeF nD
  by_cases hl : i < wk.xs.length
  · obtain ⟨x, ex⟩ : ∃ x, wk.xs[i]? = some x := ⟨_, List.getElem?_eq_getElem hl⟩
    have ed : wk.xs.drop i = x :: wk.xs.drop (i + 1) := by
      rw [List.drop_eq_getElem_cons hl]
      rw [List.getElem?_eq_getElem hl] at ex
      cases ex; rfl
    rw [ed] at h'
    obtain ⟨hok, ρ2, e2, hb⟩ := h'
    refine .inr ⟨it.go _ i H S I' hd' s' hok hl, _, fun H' n => ⟨wk.xs.length - (i + 1), by omega, n⟩, fun v H2 y => ?_⟩
    obtain ⟨I2, hd2, s2, r2⟩ := it.yld _ i H S I' v H2 x hd' s' hok ex y
    refine gPat_run hd2 p r2 ((sl.mono (s'.trans s2)).wipe (vs := vs)) e2 fun σ2 sl2 wp => ⟨(wp vs hv).trans (wipe_wipe σ vs), ?_⟩
    refine lT_then mt hd2 sl2 hb x0_le fun b S3 H3 I3 q3 hd3 s3 sl3 => ?_
    cases b with
    | true =>
      rw [if_pos rfl] at q3 ⊢
      refine lE_then me hd3 sl3 q3 x0_le fun z S4 w H4 I4 ⟨hz, q4⟩ hd4 s4 sl4 rz => ⟨accv, (hd4.fra D _ upd_same).1, by rw [ra.len]; exact hz, ?_⟩
      exact ⟨rfl, hl, acc ++ [z], accv ++ [w], S4, I4, hd4.refr, ((s'.trans s2).trans s3).trans s4, (ra.mono ((s2.trans s3).trans s4)).app (.cons rz rfl), q4⟩
    | false =>
      rw [if_neg Bool.false_ne_true] at q3 ⊢
      exact ⟨rfl, hl, acc, accv, S3, I3, hd3, (s'.trans s2).trans s3, ra.mono (s2.trans s3), q3⟩
  · have e : i = wk.xs.length := by omega
    rw [List.drop_eq_nil_of_le (by omega)] at h'
    exact .inl ⟨it.stop _ i H S I' hd' s' h'.1 e, hq acc accv S H I' hd' s' ra h'.2⟩
theorem lc_run {K : PySem.W.Frag} {L : Lk} {F H1 I1 : Hp} {S1 : Sto} {ρ : Rho} {σ : L2.St} {wk : Walk} {p : Pat} {tt : UT} {te : UE} {vs : List Nat} {Q : VK} {J : It} {D : Addr} (mt : MonoT tt) (me : MonoE te) (hv : ∀ i ∈ p.slots, i ∈ vs) (hd : Hd K L F H1 S1 I1) (sl : Slots K I1 σ ρ) (it : ItRep K L I1 J wk) (nD : H1 D = none)
    (h : uLcL wk.ok p tt te (wipeR ρ vs) (dnV K L F I1 Q) wk.xs [] S1) : ∃ Wv : Nat → Nat → Hp → Prop, (∃ m, Wv 0 m (upd H1 D (.lst []))) ∧ ∀ i m H, Wv i m H →
      (J.stop i H ∧ Q (.ref D) H) ∨ (J.go i H ∧ ∃ Nx : Hp → Prop, (∀ H', Nx H' → ∃ m', m' < m ∧ Wv (i + 1) m' H') ∧ ∀ x H', J.yld i H x H' → gPat K p x (wipe σ vs) H' fun σ2 H2 => wipe σ2 vs = wipe σ vs ∧ lT K W0 tt σ2 H2 fun b H3 =>
        if b = true then lE K W0 te σ2 H3 fun y H4 => ∃ acc, H4 D = some (.lst acc) ∧ acc.length < sizeLine ∧ Nx (upd H4 D (.lst (acc ++ [y]))) else Nx H3) :=
  lc_runG mt me hv hd sl it nD h fun acc accv S H I' hd' s' ra h' =>
    have iD : I' D = none := (hd'.fra D _ upd_same).2
    h' _ H _ (hd'.unframe (hd.freeF nD)) (s'.trans (upd_sub iD)) ⟨D, accv, rfl, upd_same, ra.mono (upd_sub iD)⟩
/-- the list of a comprehension, as a cell -/
def qCell (Q : QV) : QV := fun y S => ∃ xs, y = .lst xs ∧ ∀ p, S p = none → Q (.ref p) (put S p (.lst xs))
def uLcC (ui : UI) (p : Pat) (tt : UT) (te : UE) (vs : List Nat) : UE := fun ρ S Q X => ui ρ S (fun wk S1 => uLcL wk.ok p tt te (wipeR ρ vs) (qCell Q) wk.xs [] S1) X
theorem lLc {ui : UI} {p : Pat} {tt : UT} {te : UE} {vs : List Nat} (mi : MonoI ui) (mt : MonoT tt) (me : MonoE te) (hv : ∀ i ∈ p.slots, i ∈ vs) : ∀ σ H R, lE X.K W (uLc ui p tt te vs) σ H R → tLc (lI X.K W ui) (gPat X.K p) (lT X.K W0 tt) (lE X.K W0 te) vs σ H R := fun σ H R ⟨L, F, S, I, ρ, hd, sl, h⟩ =>
  ⟨L, F, S, I, ρ, hd, sl, mi _ _ _ _ _ _ (fun wk S1 q J H1 I1 hd1 s1 it D nD => lc_run mt me hv hd1 (sl.mono s1) it nD (mono_lcL mt me (dnV_up s1) _ _ _ q)) (fun _ _ _ _ q => q) h⟩
theorem e_lc {elt tg iter : Expr} {ifs : List Expr} {scope : Scope} {own : List (Str × Nat)} {pos : Pos} {ui : UI} {tt : UT} {te : UE} (p : Pat) (hc : X.calm = true) (hN : X.N.Nodup) (hi : TPI X W tg iter ui) (ok : BlkOk X.N X.env.scope scope own) (hv : ∀ i ∈ p.slots, i ∈ own.map (·.2))
    (hg : ∀ (s : Shared) (H : Hp) (C : Addr) (cl : List (Str × Addr)) (fp : List Addr), PG (X.blk s H scope (compEnvC scope cl C X.env) fp) tg (gPat X.K p)) (ht : ∀ (s : Shared) (H : Hp) (C : Addr) (cl : List (Str × Addr)) (fp : List Addr), TPTs (X.blk s H scope (compEnvC scope cl C X.env) fp) ifs tt)
    (he : ∀ (s : Shared) (H : Hp) (C : Addr) (cl : List (Str × Addr)) (fp : List Addr), TPE (X.blk s H scope (compEnvC scope cl C X.env) fp) W0 elt te) (hs : ∀ x, foldedSetIterable iter X.env x = pure x := by intro _; rfl) :
    TPE X W (.ListComp elt [⟨tg, iter, ifs, 0⟩] scope pos) (uLc ui p tt te (own.map (·.2))) :=
  ⟨⟨fun pins s σ H Q I h => (pe_lc hc hN hi.pe ok hg (fun s H C cl fp => (ht s H C cl fp).pe) (fun s H C cl fp => (he s H C cl fp).pe) hs).run pins s σ H Q I (lLc hi.mono (ht s H 0 [] []).mono (he s H 0 [] []).mono hv σ H Q h)⟩, mono_lc hi.mono (ht X.s_0 X.H_0 0 [] []).mono (he X.s_0 X.H_0 0 [] []).mono⟩
end
end KQ
namespace KQ
open PySem PySem.Spec PyProof.Rows L2 TL KB
/-! ### operators over trees -/
section
variable {K : PySem.W.Frag}
/-- what a flat tree is -/
theorem vw_eq_non {L : Lk} {F H I : Hp} {S : Sto} {x : Tr} {v : V} (hd : Hd K L F H S I) (r : Rep K I x v) (e : vw S x = .non) : v = .non := by
  have z := Rep.flat r (.inl e) hd
  rw [z] at e; subst e; exact r
theorem vw_eq_bl {L : Lk} {F H I : Hp} {S : Sto} {x : Tr} {v : V} {b : Bool} (hd : Hd K L F H S I) (r : Rep K I x v) (e : vw S x = .bl b) : v = .bl b := by
  have z := Rep.flat r (.inr (.inl ⟨b, e⟩)) hd
  rw [z] at e; subst e; exact r
theorem vw_eq_int {L : Lk} {F H I : Hp} {S : Sto} {x : Tr} {v : V} {n : Int} (hd : Hd K L F H S I) (r : Rep K I x v) (e : vw S x = .int n) : v = .int n := by
  have z := Rep.flat r (.inr (.inr (.inl ⟨n, e⟩))) hd
  rw [z] at e; subst e; exact r
theorem vw_eq_str {L : Lk} {F H I : Hp} {S : Sto} {x : Tr} {v : V} {n : Str} (hd : Hd K L F H S I) (r : Rep K I x v) (e : vw S x = .str n) : v = .str n := by
  have z := Rep.flat r (.inr (.inr (.inr ⟨n, e⟩))) hd
  rw [z] at e; subst e; exact r
theorem vw_eq_ty {L : Lk} {F H I : Hp} {S : Sto} {x : Tr} {v : V} {n : String} (hd : Hd K L F H S I) (r : Rep K I x v) (e : vw S x = .ty n) : v = .ty n := by
  rcases vw_cases S x with ⟨e1, _⟩ | ⟨a, c, rfl, ea, e1⟩
  · rw [e1] at e; subst e; exact r
  · obtain ⟨_, _, o, h1, h2⟩ := hd.cel a _ ea
    rw [e1] at e; subst e; exact h2.elim
theorem vw_eq_ref {L : Lk} {F H I : Hp} {S : Sto} {x : Tr} {v : V} {a : Addr} (hd : Hd K L F H S I) (r : Rep K I x v) (e : vw S x = .ref a) : v = .ref a := by
  rcases vw_cases S x with ⟨e1, _⟩ | ⟨b, c, rfl, ea, e1⟩
  · rw [e1] at e; subst e; exact r
  · obtain ⟨_, _, o, h1, h2⟩ := hd.cel b _ ea
    rw [e1] at e; subst e; exact h2.elim
end
def gAdd (x y z : Tr) : Prop := match x, y with
  | .int i, .int j => z = .int (i + j)
  | .str a, .str b => a.length + b.length ≤ sizeLine ∧ z = .str (a ++ b)
  | .lst xs, .lst ys => xs.length + ys.length ≤ sizeLine ∧ z = .lst (xs ++ ys)
  | .tup xs, .tup ys => xs.length + ys.length ≤ sizeLine ∧ z = .tup (xs ++ ys)
  | _, _ => False
def gInt2 (C : Int → Int → Prop) (f : Int → Int → Tr) (x y z : Tr) : Prop := match x, y with
  | .int i, .int j => C i j ∧ z = f i j
  | _, _ => False
abbrev gSub := gInt2 (fun _ _ => True) fun i j => .int (i - j)
def gMul (x y z : Tr) : Prop := match x, y with
  | .int i, .int j => (CMul i j ∨ CMulW i j) ∧ z = .int (i * j)
  | .lst xs, .int k => (-(2 ^ 63) ≤ k ∧ k < 2 ^ 63 ∧ xs.length * k.toNat ≤ sizeLine) ∧ z = .lst (List.replicate k.toNat xs).flatten
  | _, _ => False
abbrev gMod := gInt2 (fun _ j => 0 < j) fun i j => .int (i % j)
abbrev gFd := gInt2 CDivW fun i j => .int (i / j)
abbrev gPow := gInt2 CPow fun i j => .int (i ^ j.toNat)
abbrev gLt := gInt2 (fun _ _ => True) fun i j => .bl (decide (i < j))
abbrev gGe := gInt2 (fun _ _ => True) fun i j => .bl (decide (j ≤ i))
section
variable {X : Cx} {K : PySem.W.Frag}
theorem opt_int2 {C : Int → Int → Prop} {f : Int → Int → Tr} {g : Int → Int → V} {r : R2} (hr : ∀ {i j H Q}, C i j → Q (g i j) H → r (.int i) (.int j) H Q) (hf : ∀ i j I, Rep K I (f i j) (g i j)) : OpT K r (gInt2 C f) := by
  intro L F H S I x y z v w R hd rx ry hg k
  unfold gInt2 at hg
  split at hg
  · rename_i i j e1 e2
    cases vw_eq_int hd rx e1
    cases vw_eq_int hd ry e2
    obtain ⟨c, rfl⟩ := hg
    exact hr c (k _ H I hd (Same.refl _) (hf i j I))
  · exact hg.elim
theorem o_sub : OpT K (rI0 fun i j => .int (i - j)) gSub := opt_int2 (f := fun i j => .int (i - j)) (g := fun i j => .int (i - j)) (fun _ q => ⟨_, _, rfl, rfl, q⟩) fun _ _ _ => rfl
theorem o_mod : OpT K KB.rMd gMod := opt_int2 (f := fun i j => .int (i % j)) (g := fun i j => .int (i % j)) (fun c q => ⟨_, _, rfl, rfl, c, q⟩) fun _ _ _ => rfl
theorem o_fd : OpT K KB.rFd gFd := opt_int2 (f := fun i j => .int (i / j)) (g := fun i j => .int (i / j)) (fun c q => ⟨_, _, rfl, rfl, c, q⟩) fun _ _ _ => rfl
theorem o_pow : OpT K (rI CPow fun i j => .int (i ^ j.toNat)) gPow := opt_int2 (f := fun i j => .int (i ^ j.toNat)) (g := fun i j => .int (i ^ j.toNat)) (fun c q => ⟨_, _, rfl, rfl, c, q⟩) fun _ _ _ => rfl
theorem o_lt : OpT K (rI0 fun i j => .bl (decide (i < j))) gLt := opt_int2 (f := fun i j => .bl (decide (i < j))) (g := fun i j => .bl (decide (i < j))) (fun _ q => ⟨_, _, rfl, rfl, q⟩) fun _ _ _ => rfl
theorem o_ge : OpT K (rI0 fun i j => .bl (decide (j ≤ i))) gGe := opt_int2 (f := fun i j => .bl (decide (j ≤ i))) (g := fun i j => .bl (decide (j ≤ i))) (fun _ q => ⟨_, _, rfl, rfl, q⟩) fun _ _ _ => rfl
/-- + of ints, texts, lists, tuples -/
def rAd2 (K : PySem.W.Frag) : R2 := fun x y H Q => KB.rAd x y H Q ∨ rCatA K x y H Q
theorem ad_op : OpR X (binaryOp .Add) (rAd2 X.K) := OpR.or ad_any op_catA
theorem o_add : OpT K (rAd2 K) gAdd := by
  intro L F H S I x y z v w R hd rx ry hg k
  unfold gAdd at hg
  split at hg
  · rename_i i j e1 e2
    cases vw_eq_int hd rx e1
    cases vw_eq_int hd ry e2
    subst hg
    exact .inl (.inl ⟨i, j, rfl, rfl, k _ H I hd (Same.refl _) rfl⟩)
  · rename_i a b e1 e2
    cases vw_eq_str hd rx e1
    cases vw_eq_str hd ry e2
    obtain ⟨c, rfl⟩ := hg
    exact .inl (.inr (.inl ⟨a, b, rfl, rfl, c, k _ H I hd (Same.refl _) rfl⟩))
  · rename_i xs ys e1 e2
    obtain ⟨a, vs, rfl, h1, h2⟩ := vw_lst hd rx e1
    obtain ⟨b, ws, rfl, h3, h4⟩ := vw_lst hd ry e2
    obtain ⟨c, rfl⟩ := hg
    refine .inl (.inr (.inr ⟨a, b, vs, ws, rfl, rfl, h1, h3, by rw [h2.len, h4.len]; exact c, fun p np => k _ _ _ (hd.imm np) (upd_sub (hd.freeI np)) ⟨p, vs ++ ws, rfl, upd_same, (h2.app h4).mono (upd_sub (hd.freeI np))⟩⟩))
  · rename_i xs ys e1 e2
    obtain ⟨a, vs, rfl, h1, h2⟩ := vw_tup hd rx e1
    obtain ⟨b, ws, rfl, h3, h4⟩ := vw_tup hd ry e2
    obtain ⟨c, rfl⟩ := hg
    have ex : ∀ {x : Tr} {u : V} {zs : List Tr}, Rep K I x u → vw S x = .tup zs → Rep K I (.tup zs) u := fun {x u zs} r e => by
      rcases vw_cases S x with ⟨e1, _⟩ | ⟨b, c, rfl, ea, e1⟩
      · rw [e1] at e; subst e; exact r
      · obtain ⟨_, _, o, _, q⟩ := hd.cel b _ ea
        rw [e1] at e; subst e; exact q.elim
    have z1 := h2.len
    have z2 := h4.len
    refine .inr ⟨a, b, vs, ws, rfl, rfl, h1, h3, by rw [z1, z2]; exact c, fun e => ?_, fun _ e => ?_, fun _ _ p np => ?_⟩
    · subst e
      have : xs = [] := List.length_eq_zero_iff.mp z1.symm
      subst this
      exact k _ H I hd (Same.refl _) (ex ry e2)
    · subst e
      have : ys = [] := List.length_eq_zero_iff.mp z2.symm
      subst this
      rw [List.append_nil] at k
      exact k _ H I hd (Same.refl _) (ex rx e1)
    · exact k _ _ _ (hd.imm np) (upd_sub (hd.freeI np)) ⟨p, vs ++ ws, rfl, .inl (.inl upd_same), (h2.app h4).mono (upd_sub (hd.freeI np))⟩
  · exact hg.elim
theorem RepL.flat {I : Hp} {xs : List Tr} {vs : List V} (h : RepL K I xs vs) : ∀ n, RepL K I (List.replicate n xs).flatten (List.replicate n vs).flatten
  | 0 => rfl
  | n + 1 => by
    rw [List.replicate_succ, List.replicate_succ, List.flatten_cons, List.flatten_cons]
    exact h.app (RepL.flat h n)
theorem o_mul : OpT K KB.rMl gMul := by
  intro L F H S I x y z v w R hd rx ry hg k
  unfold gMul at hg
  split at hg
  · rename_i i j e1 e2
    cases vw_eq_int hd rx e1
    cases vw_eq_int hd ry e2
    obtain ⟨c, rfl⟩ := hg
    exact .inl ⟨i, j, rfl, rfl, c, k _ H I hd (Same.refl _) rfl⟩
  · rename_i xs n e1 e2
    obtain ⟨a, vs, rfl, h1, h2⟩ := vw_lst hd rx e1
    cases vw_eq_int hd ry e2
    obtain ⟨⟨c1, c2, c3⟩, rfl⟩ := hg
    exact .inr ⟨a, n, vs, rfl, rfl, h1, c1, c2, by rw [h2.len]; exact c3, fun p np => k _ _ _ (hd.imm np) (upd_sub (hd.freeI np)) ⟨p, _, rfl, upd_same, (h2.flat _).mono (upd_sub (hd.freeI np))⟩⟩
  · exact hg.elim
/-! ### == of data -/
mutual
def toD : Tr → Option PyData
  | .non => some .none
  | .bl b => some (.bool b)
  | .int n => some (.int n)
  | .str z => some (.str z)
  | .lst xs => (toDs xs).map .list
  | .tup xs => (toDs xs).map .tuple
  | _ => none
def toDs : List Tr → Option (List PyData)
  | [] => some []
  | x :: xs => match toD x, toDs xs with
    | some d, some ds => some (d :: ds)
    | _, _ => none
end
/-- x == y as the flat ones compare -/
def eqF : Tr → Tr → Option Bool
  | .non, .non => some true
  | .non, .int _ => some false
  | .int _, .non => some false
  | .non, .bl _ => some false
  | .bl _, .non => some false
  | .non, .str _ => some false
  | .str _, .non => some false
  | .int i, .int j => some (decide (i = j))
  | .bl a, .bl b => some (decide (a = b))
  | .str a, .str b => some (decide (a = b))
  | .int _, .str _ => some false
  | .str _, .int _ => some false
  | .bl _, .str _ => some false
  | .str _, .bl _ => some false
  | _, _ => none
def gEq (n : Bool) (x y z : Tr) : Prop := (∃ b, eqF x y = some b ∧ z = .bl (n ^^ b)) ∨ (eqF x y = none ∧ ∃ d e, toD x = some d ∧ toD y = some e ∧ SeqAt.shaped d = true ∧ SeqAt.shaped e = true ∧ z = .bl (n ^^ PyData.eqv d e))
mutual
theorem toD_dp {L : Lk} {F H I : Hp} {S : Sto} (hd : Hd K L F H S I) : ∀ {x : Tr} {d : PyData} {v : V}, toD x = some d → Rep K I x v → Dp K H v d
  | .non, d, v, e, r => by cases e; cases r; exact .non
  | .bl b, d, v, e, r => by cases e; cases r; exact .bl b
  | .int b, d, v, e, r => by cases e; cases r; exact .int b
  | .str b, d, v, e, r => by cases e; cases r; exact .str b
  | .lst xs, d, v, e, r => by
    unfold toD at e
    obtain ⟨ds, e1, rfl⟩ := Option.map_eq_some_iff.mp e
    obtain ⟨a, vs, rfl, h1, h2⟩ := vw_lst (x := .lst xs) hd r rfl
    exact .lst (.inl (.inl h1)) (toDs_dp hd e1 h2)
  | .tup xs, d, v, e, r => by
    unfold toD at e
    obtain ⟨ds, e1, rfl⟩ := Option.map_eq_some_iff.mp e
    obtain ⟨a, vs, rfl, h1, h2⟩ := vw_tup (x := .tup xs) hd r rfl
    exact .tup h1 (toDs_dp hd e1 h2)
theorem toDs_dp {L : Lk} {F H I : Hp} {S : Sto} (hd : Hd K L F H S I) : ∀ {xs : List Tr} {ds : List PyData} {vs : List V}, toDs xs = some ds → RepL K I xs vs → DpAll K H vs ds
  | [], ds, vs, e, r => by cases e; cases r; exact .nil
  | x :: xs, ds, vs, e, r => by
    unfold toDs at e
    split at e
    · rename_i d' ds' e1 e2
      cases e
      obtain ⟨v, ws, rfl, r1, r2⟩ := r
      exact .cons (toD_dp hd e1 r1) (toDs_dp hd e2 r2)
    · cases e
end
theorem toD_vw {L : Lk} {F H I : Hp} {S : Sto} {x : Tr} {d : PyData} {v : V} (hd : Hd K L F H S I) (e : toD (vw S x) = some d) (r : Rep K I x v) : Dp K H v d := by
  rcases vw_cases S x with ⟨e1, _⟩ | ⟨a, c, rfl, ea, e1⟩
  · rw [e1] at e; exact toD_dp hd e r
  · obtain ⟨_, _, o, h1, h2⟩ := hd.cel a _ ea
    rw [e1] at e
    cases r
    cases c with
    | lst xs =>
      unfold toD at e
      obtain ⟨ds, e1, rfl⟩ := Option.map_eq_some_iff.mp e
      obtain ⟨vs, rfl, h2⟩ := h2
      exact .lst (.inl (.inl h1)) (toDs_dp hd e1 h2)
    | _ => first | exact h2.elim | cases e
theorem eqF_scal {L : Lk} {F H I : Hp} {S : Sto} {x y : Tr} {v w : V} {b : Bool} (hd : Hd K L F H S I) (rx : Rep K I x v) (ry : Rep K I y w) (e : eqF (vw S x) (vw S y) = some b) : scal v w = true ∧ decide (v = w) = b := by
  unfold eqF at e
  split at e <;> cases e
  · rename_i e1 e2; cases vw_eq_non hd rx e1; cases vw_eq_non hd ry e2; exact ⟨rfl, rfl⟩
  · rename_i e1 e2; cases vw_eq_non hd rx e1; cases vw_eq_int hd ry e2; exact ⟨rfl, rfl⟩
  · rename_i e1 e2; cases vw_eq_int hd rx e1; cases vw_eq_non hd ry e2; exact ⟨rfl, rfl⟩
  · rename_i e1 e2; cases vw_eq_non hd rx e1; cases vw_eq_bl hd ry e2; exact ⟨rfl, rfl⟩
  · rename_i e1 e2; cases vw_eq_bl hd rx e1; cases vw_eq_non hd ry e2; exact ⟨rfl, rfl⟩
  · rename_i e1 e2; cases vw_eq_non hd rx e1; cases vw_eq_str hd ry e2; exact ⟨rfl, rfl⟩
  · rename_i e1 e2; cases vw_eq_str hd rx e1; cases vw_eq_non hd ry e2; exact ⟨rfl, rfl⟩
  · rename_i i j e1 e2; cases vw_eq_int hd rx e1; cases vw_eq_int hd ry e2; exact ⟨rfl, by simp only [V.int.injEq]⟩
  · rename_i i j e1 e2; cases vw_eq_bl hd rx e1; cases vw_eq_bl hd ry e2; exact ⟨rfl, by simp only [V.bl.injEq]⟩
  · rename_i i j e1 e2; cases vw_eq_str hd rx e1; cases vw_eq_str hd ry e2; exact ⟨rfl, by simp only [V.str.injEq]⟩
  · rename_i e1 e2; cases vw_eq_int hd rx e1; cases vw_eq_str hd ry e2; exact ⟨rfl, rfl⟩
  · rename_i e1 e2; cases vw_eq_str hd rx e1; cases vw_eq_int hd ry e2; exact ⟨rfl, rfl⟩
  · rename_i e1 e2; cases vw_eq_bl hd rx e1; cases vw_eq_str hd ry e2; exact ⟨rfl, rfl⟩
  · rename_i e1 e2; cases vw_eq_str hd rx e1; cases vw_eq_bl hd ry e2; exact ⟨rfl, rfl⟩
def rEq2 (K : PySem.W.Frag) (n : Bool) : R2 := fun x y H Q => (scal x y = true ∧ Q (.bl (n ^^ decide (x = y))) H) ∨ (∃ d e, Dp K H x d ∧ Dp K H y e ∧ SeqAt.shaped d = true ∧ SeqAt.shaped e = true ∧ Q (.bl (n ^^ PyData.eqv d e)) H)
theorem eq_op {k : Nat} (hr : Room k X.A) : OpR X (compareOp .Eq) (rEq2 X.K false) := KB.OpR.wk (OpR.or op_eq (op_eqD hr.units)) fun x y H Q h => by
  rcases h with ⟨hx, q⟩ | ⟨d, e, a, b, c, f, q⟩
  · exact .inl ⟨hx, by simpa using q⟩
  · exact .inr ⟨d, e, a, b, c, f, by simpa using q⟩
theorem ne_op {k : Nat} (hr : Room k X.A) : OpR X (compareOp .NotEq) (rEq2 X.K true) := KB.OpR.wk (OpR.or op_ne (op_neD hr.units)) fun x y H Q h => by
  rcases h with ⟨hx, q⟩ | ⟨d, e, a, b, c, f, q⟩
  · exact .inl ⟨hx, by simpa using q⟩
  · exact .inr ⟨d, e, a, b, c, f, by simpa using q⟩
theorem o_eq {n : Bool} : OpT K (rEq2 K n) (gEq n) := by
  intro L F H S I x y z v w R hd rx ry hg k
  rcases hg with ⟨b, e, rfl⟩ | ⟨_, d, e, e1, e2, s1, s2, rfl⟩
  · obtain ⟨h1, h2⟩ := eqF_scal hd rx ry e
    exact .inl ⟨h1, by rw [h2]; exact k _ H I hd (Same.refl _) rfl⟩
  · exact .inr ⟨d, e, toD_vw hd e1 rx, toD_vw hd e2 ry, s1, s2, k _ H I hd (Same.refl _) rfl⟩
/-! ### is -/
def isKT : Tr → Bool
  | .non => true
  | .bl _ => true
  | _ => false
def isT : Tr → Tr → Bool
  | .non, .non => true
  | .bl a, .bl b => a == b
  | _, _ => false
def gIs (n : Bool) (x y z : Tr) : Prop := isKT y = true ∧ z = .bl (n ^^ isT x y)
/-! ### in -/
def flatT : Tr → Option V
  | .non => some .non
  | .bl b => some (.bl b)
  | .int n => some (.int n)
  | .str z => some (.str z)
  | _ => none
def flatTs : List Tr → Option (List V)
  | [] => some []
  | x :: xs => match flatT x, flatTs xs with
    | some v, some vs => some (v :: vs)
    | _, _ => none
def hasK (k : Key) (ks : List Key) : Bool := ks.any fun j => decide (j = k)
theorem hasK_iff {k : Key} {ks : List Key} : hasK k ks = true ↔ k ∈ ks := by
  unfold hasK
  rw [List.any_eq_true]
  exact ⟨fun ⟨j, h, e⟩ => of_decide_eq_true e ▸ h, fun h => ⟨k, h, decide_eq_true rfl⟩⟩
def keyT : Tr → Option Key
  | .int n => some (.inl n)
  | .str z => some (.inr z)
  | _ => none
def gIn (n : Bool) (x y z : Tr) : Prop := match y with
  | .str t => ∃ c, x = .str ⟨#[c]⟩ ∧ z = .bl (n ^^ decide (c ∈ t.cps.toList))
  | .lst ys => ∃ v vs, flatT x = some v ∧ flatTs ys = some vs ∧ z = .bl (n ^^ inV v vs)
  | .tup ys => ∃ v vs, flatT x = some v ∧ flatTs ys = some vs ∧ z = .bl (n ^^ inV v vs)
  | .dic ks xs => ∃ k, keyT x = some k ∧ z = .bl (n ^^ hasK k ks)
  | _ => False
theorem flatT_rep {L : Lk} {F H I : Hp} {S : Sto} {x : Tr} {v u : V} (hd : Hd K L F H S I) (r : Rep K I x u) (e : flatT (vw S x) = some v) : u = v ∧ flatV v = true := by
  cases z : vw S x with
  | non => rw [z] at e; cases e; exact ⟨vw_eq_non hd r z, rfl⟩
  | bl b => rw [z] at e; cases e; exact ⟨vw_eq_bl hd r z, rfl⟩
  | int b => rw [z] at e; cases e; exact ⟨vw_eq_int hd r z, rfl⟩
  | str b => rw [z] at e; cases e; exact ⟨vw_eq_str hd r z, rfl⟩
  | _ => rw [z] at e; cases e
theorem flatT_rep0 {I : Hp} {x : Tr} {v u : V} (r : Rep K I x u) (e : flatT x = some v) : u = v ∧ flatV v = true := by
  cases x with
  | non => cases e; exact ⟨r, rfl⟩
  | bl b => cases e; exact ⟨r, rfl⟩
  | int b => cases e; exact ⟨r, rfl⟩
  | str b => cases e; exact ⟨r, rfl⟩
  | _ => cases e
theorem flatTs_rep {I : Hp} : ∀ {xs : List Tr} {vs us : List V}, RepL K I xs us → flatTs xs = some vs → us = vs ∧ vs.all flatV = true
  | [], vs, us, r, e => by cases e; cases r; exact ⟨rfl, rfl⟩
  | x :: xs, vs, us, r, e => by
    unfold flatTs at e
    split at e
    · rename_i v vs' e1 e2
      cases e
      obtain ⟨u, ws, rfl, r1, r2⟩ := r
      obtain ⟨rfl, h1⟩ := flatT_rep0 r1 e1
      obtain ⟨rfl, h2⟩ := flatTs_rep r2 e2
      exact ⟨rfl, by simp [h1, h2]⟩
    · cases e
theorem keyT_rep {L : Lk} {F H I : Hp} {S : Sto} {x : Tr} {v : V} {k : Key} (hd : Hd K L F H S I) (r : Rep K I x v) (e : keyT (vw S x) = some k) : v = kV k := by
  cases z : vw S x with
  | int b => rw [z] at e; cases e; exact vw_eq_int hd r z
  | str b => rw [z] at e; cases e; exact vw_eq_str hd r z
  | _ => rw [z] at e; cases e
/-- the value of a key -/
def kget (k : Key) : List Key → List Tr → Option Tr
  | j :: ks, x :: xs => if k = j then some x else kget k ks xs
  | _, _ => none
theorem kget_val {I : Hp} {k : Key} : ∀ {ks : List Key} {xs : List Tr} {vs : List V}, ks.length = xs.length → RepL K I xs vs → (∀ x, kget k ks xs = some x → ∃ v, valV (ks.zip vs) k = some v ∧ Rep K I x v) ∧ ((valV (ks.zip vs) k).isSome = hasK k ks)
  | [], [], vs, _, r => by cases r; exact ⟨fun x e => (nomatch e), rfl⟩
  | [], _ :: _, vs, e, r => nomatch e
  | _ :: _, [], vs, e, r => nomatch e
  | j :: ks, y :: xs, vs, e, r => by
    obtain ⟨v, ws, rfl, r1, r2⟩ := r
    have ih := kget_val (k := k) (ks := ks) (by simpa using e) r2
    by_cases h : k = j
    · subst h
      have z : valV ((k :: ks).zip (v :: ws)) k = some v := by simp [valV, List.find?]
      exact ⟨fun x e => by simp [kget] at e; subst e; exact ⟨v, z, r1⟩, by rw [z]; simp [hasK]⟩
    · have z : valV ((j :: ks).zip (v :: ws)) k = valV (ks.zip ws) k := by simp [valV, List.find?, Ne.symm h]
      rw [z]
      exact ⟨fun x e => ih.1 x (by simpa [kget, h] using e), by rw [ih.2]; simp [hasK, Ne.symm h]⟩
def rIn2 (K : PySem.W.Frag) (n : Bool) : R2 := fun x y H Q => (∃ (c : Nat) (z : Str), x = .str ⟨#[c]⟩ ∧ y = .str z ∧ Q (.bl (n ^^ decide (c ∈ z.cps.toList))) H) ∨
  (∃ p xs, y = .ref p ∧ (SqL K H p xs ∨ SqT K H p xs) ∧ flatV x = true ∧ xs.all flatV = true ∧ Q (.bl (n ^^ inV x xs)) H) ∨ (∃ a o, y = .ref a ∧ DGet H a x o ∧ Q (.bl (n ^^ o.isSome)) H)
theorem in_op {k : Nat} (hr : Room k X.A) : OpR X (compareOp .In) (rIn2 X.K false) := by
  intro pins s σ H x y v u Q I rx ry h
  rcases h with ⟨c, z, rfl, rfl, q⟩ | ⟨p, xs, rfl, hp, a, b, q⟩ | ⟨a, o, rfl, g, q⟩
  · exact op_in_sign pins s σ H _ _ v u Q I rx ry ⟨c, z, rfl, rfl, by simpa using q⟩
  · exact op_in_seq pins s σ H _ _ v u Q I rx ry ⟨p, xs, rfl, hp, a, b, by simpa using q⟩
  · cases ry
    exact d_in (hu_of hr) I g rx fun s3 I3 => ⟨.bl o.isSome, H, I3, rfl, by simpa using q⟩
theorem o_in {n : Bool} : OpT K (rIn2 K n) (gIn n) := by
  intro L F H S I x y z v w R hd rx ry hg k
  unfold gIn at hg
  split at hg
  · rename_i t e2
    obtain ⟨c, e1, rfl⟩ := hg
    cases vw_eq_str hd rx e1
    cases vw_eq_str hd ry e2
    exact .inl ⟨c, t, rfl, rfl, k _ H I hd (Same.refl _) rfl⟩
  · rename_i ys e2
    obtain ⟨u, us, e1, e3, rfl⟩ := hg
    obtain ⟨a, vs, rfl, h1, h2⟩ := vw_lst hd ry e2
    obtain ⟨rfl, f1⟩ := flatT_rep hd rx e1
    obtain ⟨rfl, f2⟩ := flatTs_rep h2 e3
    exact .inr (.inl ⟨a, vs, rfl, .inl (.inl (.inl h1)), f1, f2, k _ H I hd (Same.refl _) rfl⟩)
  · rename_i ys e2
    obtain ⟨u, us, e1, e3, rfl⟩ := hg
    obtain ⟨a, vs, rfl, h1, h2⟩ := vw_tup hd ry e2
    obtain ⟨rfl, f1⟩ := flatT_rep hd rx e1
    obtain ⟨rfl, f2⟩ := flatTs_rep h2 e3
    exact .inr (.inl ⟨a, vs, rfl, .inr h1, f1, f2, k _ H I hd (Same.refl _) rfl⟩)
  · rename_i ks xs e2
    obtain ⟨key, e1, rfl⟩ := hg
    obtain ⟨a, vs, rfl, h1, hl, h2⟩ := vw_dic hd ry e2
    cases keyT_rep hd rx e1
    exact .inr (.inr ⟨a, _, rfl, .inl ⟨_, key, h1, rfl, rfl⟩, by rw [(kget_val hl h2).2]; exact k _ H I hd (Same.refl _) rfl⟩)
  · exact hg.elim
/-! ### x[i] -/
def gIx (x y z : Tr) : Prop := match x with
  | .str t => t.length ≤ sizeLine ∧ ∃ i c, y = .int i ∧ atI t.cps.toList i = some c ∧ z = .str ⟨#[c]⟩
  | .lst xs => ∃ i, y = .int i ∧ atI xs i = some z
  | .scr ns => ∃ i, y = .int i ∧ ∃ n, atI ns i = some n ∧ z = .int n
  | .tup xs => ∃ i, y = .int i ∧ atI xs i = some z
  | .dic ks xs => ∃ k, keyT y = some k ∧ kget k ks xs = some z
  | _ => False
def rIx2 (K : PySem.W.Frag) : R2 := fun x y H Q => rIxL K x y H Q ∨ rIxT K x y H Q ∨ rIxS x y H Q ∨ (∃ a v, x = .ref a ∧ DGet H a y (some v) ∧ Q v H)
theorem ix_op {k : Nat} (hr : Room k X.A) : IxR X (rIx2 X.K) := by
  intro value slice pins s σ H x y v u Q I rx ry h hs
  rcases h with h | h | h | ⟨a, z, rfl, g, q⟩
  · exact ix_list value slice pins s σ H x y v u Q I rx ry h hs
  · exact ix_tup value slice pins s σ H x y v u Q I rx ry h hs
  · exact ix_str value slice pins s σ H x y v u Q I rx ry h hs
  · cases rx
    have hT := dict_typeIs I g
    have fin : wpAny (model X.prog X.w) X.A (subscripted slice false (Value.ref a) u) (fun r s3 => wpAny (model X.prog X.w) X.A (letTemporaryGo value (Value.ref a) r >>= fun _ => pure r) (EP X pins σ Q) X.xe s3) X.xe s := by
      rw [hs]
      exact wpAny_operating (d_getItem (hu_of hr) I g ry fun w' s3 I3 rw' => wpAny_bind (wpAny_letTemporaryGo (wpAny_pure ⟨z, H, I3, rw', q⟩)))
    unfold subscriptTail
    rw [getitemInPython_of_ne hT.not_modules]
    refine wpAny_bind (wpAny_bind (wpAny_specialOf hT PySem.F.slot_dict_getitem.lookup ?_))
    first | exact wpAny_pure (wpAny_bind fin) | exact wpAny_bind (wpAny_pure (wpAny_bind fin)) | exact wpAny_bind fin
theorem atI_rep {I : Hp} {xs : List Tr} {vs : List V} {i : Int} {x : Tr} (r : RepL K I xs vs) (e : atI xs i = some x) : ∃ v, atI vs i = some v ∧ Rep K I x v := by
  unfold atI at e ⊢
  rw [r.len]
  obtain ⟨j, e1, e2⟩ := Option.bind_eq_some_iff.mp e
  obtain ⟨v, e3, r3⟩ := r.get' e2
  exact ⟨v, by rw [e1]; exact e3, r3⟩
theorem o_ix : OpT K (rIx2 K) gIx := by
  intro L F H S I x y z v w R hd rx ry hg k
  unfold gIx at hg
  split at hg
  · rename_i t e1
    obtain ⟨hl, i, c, e2, ha, rfl⟩ := hg
    cases vw_eq_str hd rx e1
    cases vw_eq_int hd ry e2
    exact .inr (.inr (.inl ⟨t, i, c, rfl, rfl, hl, ha, k _ H I hd (Same.refl _) rfl⟩))
  · rename_i xs e1
    obtain ⟨i, e2, ha⟩ := hg
    obtain ⟨a, vs, rfl, h1, h2⟩ := vw_lst hd rx e1
    cases vw_eq_int hd ry e2
    obtain ⟨u, ha, r⟩ := atI_rep h2 ha
    exact .inl ⟨a, vs, i, u, rfl, rfl, .inl (.inl h1), ha, k _ H I hd (Same.refl _) r⟩
  · rename_i ns e1
    obtain ⟨i, e2, n, ha, rfl⟩ := hg
    obtain ⟨a, rfl, h1⟩ := vw_scr hd rx e1
    cases vw_eq_int hd ry e2
    refine .inl ⟨a, _, i, .int n, rfl, rfl, h1, ?_, k _ H I hd (Same.refl _) rfl⟩
    unfold atI at ha ⊢
    obtain ⟨j, e3, e4⟩ := Option.bind_eq_some_iff.mp ha
    rw [List.length_map, e3]
    show (ns.map V.int)[j]? = _
    rw [List.getElem?_map, e4]; rfl
  · rename_i xs e1
    obtain ⟨i, e2, ha⟩ := hg
    obtain ⟨a, vs, rfl, h1, h2⟩ := vw_tup hd rx e1
    cases vw_eq_int hd ry e2
    obtain ⟨u, ha, r⟩ := atI_rep h2 ha
    exact .inr (.inl ⟨a, vs, i, u, rfl, rfl, h1, ha, k _ H I hd (Same.refl _) r⟩)
  · rename_i ks xs e1
    obtain ⟨key, e2, ha⟩ := hg
    obtain ⟨a, vs, rfl, h1, hl, h2⟩ := vw_dic hd rx e1
    cases keyT_rep hd ry e2
    obtain ⟨u, ha, r⟩ := (kget_val hl h2).1 z ha
    exact .inr (.inr (.inr ⟨a, u, rfl, .inl ⟨_, key, h1, rfl, ha.symm⟩, k _ H I hd (Same.refl _) r⟩))
  · exact hg.elim
end
end KQ
namespace KQ
open PySem PySem.Spec PyProof.Rows L2 TL KB
section
variable {K : PySem.W.Frag} {X : Cx} {W : WX}
/-! ### unary minus -/
def gNeg (x z : Tr) : Prop := match x with
  | .int i => z = .int (-i)
  | _ => False
/-! ### slices -/
def uPart (te : UE) : Rho → Sto → (Option Int → Sto → Prop) → QX → Prop := fun ρ S Q X => te ρ S (fun x S1 => ∃ i, vw S1 x = .int i ∧ Q (some i) S1) X
def uNoPart : Rho → Sto → (Option Int → Sto → Prop) → QX → Prop := fun ρ S Q X => Q none S
def cutT (xs : List Tr) (lo hi : Option Int) : List Tr := (xs.drop (HT.sIx xs.length 0 lo)).take (HT.sIx xs.length xs.length hi - HT.sIx xs.length 0 lo)
def gSl (x : Tr) (lo hi : Option Int) (z : Tr) : Prop := match x with
  | .str t => t.length ≤ sizeLine ∧ z = .str (cutS t lo hi)
  | .lst xs => z = .lst (cutT xs lo hi)
  | .scr ns => z = .lst (cutT (ns.map Tr.int) lo hi)
  | .tup xs => z = .tup (cutT xs lo hi)
  | _ => False
def uSl (te : UE) (tl th : Rho → Sto → (Option Int → Sto → Prop) → QX → Prop) : UE := fun ρ S Q X => te ρ S (fun x S1 => tl ρ S1 (fun l S2 => th ρ S2 (fun u S3 => ∃ z, gSl (vw S3 x) l u z ∧ Q z S3) X) X) X
/-! ### built-ins -/
def gLen (xs : List Tr) (z : Tr) : Prop := match xs with
  | [.str t] => t.length ≤ sizeLine ∧ z = .int t.length
  | [.lst ys] => z = .int ys.length
  | [.scr ys] => z = .int ys.length
  | [.tup ys] => z = .int ys.length
  | [.dic ks ys] => z = .int ks.length
  | _ => False
theorem RepL.one {I : Hp} {x : Tr} {vs : List V} (r : RepL K I [x] vs) : ∃ v, vs = [v] ∧ Rep K I x v := by
  obtain ⟨v, ws, rfl, r1, r2⟩ := r
  cases r2
  exact ⟨v, rfl, r1⟩
theorem RepL.two {I : Hp} {x y : Tr} {vs : List V} (r : RepL K I [x, y] vs) : ∃ v w, vs = [v, w] ∧ Rep K I x v ∧ Rep K I y w := by
  obtain ⟨v, ws, rfl, r1, r2⟩ := r
  obtain ⟨w, rfl, r3⟩ := RepL.one r2
  exact ⟨v, w, rfl, r1, r3⟩
theorem map1 {S : Sto} {xs : List Tr} {y : Tr} (e : xs.map (vw S) = [y]) : ∃ x, xs = [x] ∧ vw S x = y := by
  cases xs with
  | nil => cases e
  | cons x r => cases r with
    | nil => cases e; exact ⟨x, rfl, rfl⟩
    | cons a b => cases e
theorem map2 {S : Sto} {xs : List Tr} {y z : Tr} (e : xs.map (vw S) = [y, z]) : ∃ x w, xs = [x, w] ∧ vw S x = y ∧ vw S w = z := by
  cases xs with
  | nil => cases e
  | cons x r =>
    rw [List.map_cons] at e
    injection e with e1 e2
    obtain ⟨w, rfl, e3⟩ := map1 e2
    exact ⟨x, w, rfl, e1, e3⟩
def rLen2 (K : PySem.W.Frag) : List V → Hp → VK → Prop := fun vs H Q => (∃ z, vs = [.str z] ∧ z.length ≤ sizeLine ∧ Q (.int z.length) H) ∨ (∃ p ys, vs = [.ref p] ∧ (SqL K H p ys ∨ SqT K H p ys) ∧ Q (.int ys.length) H) ∨ (∃ p kvs, vs = [.ref p] ∧ Rd H p (.dK kvs) ∧ Q (.int kvs.length) H)
theorem len_dR : CallR X (.builtin "len") (fun xs H Q => ∃ a kvs, xs = [V.ref a] ∧ Rd H a (.dK kvs) ∧ Q (.int kvs.length) H) := by
  intro pins s σ H xs us Q I r h
  obtain ⟨a, kvs, rfl, ha, q⟩ := h
  obtain ⟨u, rfl, ru⟩ := vals1 r
  cases ru
  exact d_len I ha fun t s' I' => ⟨.int kvs.length, H, I', ⟨t, rfl⟩, q⟩
theorem len_op : CallR X (.builtin "len") (rLen2 X.K) := by
  refine KB.CallR.wk (KB.CallR.or call_len_str (KB.CallR.or call_len_seq len_dR)) fun vs H Q h => ?_
  rcases h with h | h | h
  · exact .inl h
  · exact .inr (.inl h)
  · exact .inr (.inr h)
theorem c_len : CallT K (rLen2 K) gLen := by
  intro L F H S I xs z vs R hd r hg k
  unfold gLen at hg
  split at hg
  · rename_i t e0
    obtain ⟨x, rfl, e⟩ := map1 e0
    obtain ⟨v, rfl, r1⟩ := RepL.one r
    cases vw_eq_str hd r1 e
    obtain ⟨c, rfl⟩ := hg
    exact .inl ⟨t, rfl, c, k _ H I hd (Same.refl _) rfl⟩
  · rename_i ys e0
    obtain ⟨x, rfl, e⟩ := map1 e0
    obtain ⟨v, rfl, r1⟩ := RepL.one r
    obtain ⟨a, us, rfl, h1, h2⟩ := vw_lst hd r1 e
    subst hg
    exact .inr (.inl ⟨a, us, rfl, .inl (.inl (.inl h1)), by rw [h2.len]; exact k _ H I hd (Same.refl _) rfl⟩)
  · rename_i ys e0
    obtain ⟨x, rfl, e⟩ := map1 e0
    obtain ⟨v, rfl, r1⟩ := RepL.one r
    obtain ⟨a, rfl, h1⟩ := vw_scr hd r1 e
    subst hg
    exact .inr (.inl ⟨a, _, rfl, .inl h1, by rw [List.length_map]; exact k _ H I hd (Same.refl _) rfl⟩)
  · rename_i ys e0
    obtain ⟨x, rfl, e⟩ := map1 e0
    obtain ⟨v, rfl, r1⟩ := RepL.one r
    obtain ⟨a, us, rfl, h1, h2⟩ := vw_tup hd r1 e
    subst hg
    exact .inr (.inl ⟨a, us, rfl, .inr h1, by rw [h2.len]; exact k _ H I hd (Same.refl _) rfl⟩)
  · rename_i ks ys e0
    obtain ⟨x, rfl, e⟩ := map1 e0
    obtain ⟨v, rfl, r1⟩ := RepL.one r
    obtain ⟨a, us, rfl, h1, hl, h2⟩ := vw_dic hd r1 e
    subst hg
    refine .inr (.inr ⟨a, _, rfl, h1, ?_⟩)
    have : (ks.zip us).length = ks.length := by rw [List.length_zip, h2.len]; omega
    rw [this]
    exact k _ H I hd (Same.refl _) rfl
  · exact hg.elim
def gAbs (xs : List Tr) (z : Tr) : Prop := match xs with
  | [.int i] => z = .int i.natAbs
  | _ => False
theorem c_abs : CallT K (fun xs H Q => ∃ i, xs = [.int i] ∧ Q (.int (if i < 0 then -i else i)) H) gAbs := by
  intro L F H S I xs z vs R hd r hg k
  unfold gAbs at hg
  split at hg
  · rename_i i e0
    obtain ⟨x, rfl, e⟩ := map1 e0
    obtain ⟨v, rfl, r1⟩ := RepL.one r
    cases vw_eq_int hd r1 e
    subst hg
    exact ⟨i, rfl, by rw [KB.abs_nat]; exact k _ H I hd (Same.refl _) rfl⟩
  · exact hg.elim
def gInt (xs : List Tr) (z : Tr) : Prop := match xs with
  | [.int i] => z = .int i
  | [.bl b] => z = .int (if b then 1 else 0)
  | [.str a] => ∃ n, PySem.intText? a = some n ∧ a.length ≤ 640 ∧ z = .int n
  | _ => False
theorem c_int : CallT K KB.rIntA gInt := by
  intro L F H S I xs z vs R hd r hg k
  unfold gInt at hg
  split at hg
  · rename_i i e0
    obtain ⟨x, rfl, e⟩ := map1 e0
    obtain ⟨v, rfl, r1⟩ := RepL.one r
    cases vw_eq_int hd r1 e
    subst hg
    exact .inl ⟨i, rfl, k _ H I hd (Same.refl _) rfl⟩
  · rename_i i e0
    obtain ⟨x, rfl, e⟩ := map1 e0
    obtain ⟨v, rfl, r1⟩ := RepL.one r
    cases vw_eq_bl hd r1 e
    subst hg
    exact .inr (.inl ⟨i, rfl, k _ H I hd (Same.refl _) rfl⟩)
  · rename_i i e0
    obtain ⟨x, rfl, e⟩ := map1 e0
    obtain ⟨v, rfl, r1⟩ := RepL.one r
    cases vw_eq_str hd r1 e
    obtain ⟨n, h1, h2, rfl⟩ := hg
    exact .inr (.inr ⟨i, n, rfl, h1, h2, k _ H I hd (Same.refl _) rfl⟩)
  · exact hg.elim
def gStr (xs : List Tr) (z : Tr) : Prop := match xs with
  | [.int i] => i.natAbs.log2 < 1920 ∧ z = .str (Str.ofString (toString i))
  | [.str a] => z = .str a
  | _ => False
theorem c_str : CallT K KB.rStrA gStr := by
  intro L F H S I xs z vs R hd r hg k
  unfold gStr at hg
  split at hg
  · rename_i i e0
    obtain ⟨x, rfl, e⟩ := map1 e0
    obtain ⟨v, rfl, r1⟩ := RepL.one r
    cases vw_eq_int hd r1 e
    obtain ⟨c, rfl⟩ := hg
    exact .inl ⟨i, rfl, c, k _ H I hd (Same.refl _) rfl⟩
  · rename_i i e0
    obtain ⟨x, rfl, e⟩ := map1 e0
    obtain ⟨v, rfl, r1⟩ := RepL.one r
    cases vw_eq_str hd r1 e
    subst hg
    exact .inr ⟨i, rfl, k _ H I hd (Same.refl _) rfl⟩
  · exact hg.elim
def gMM (f : Int → Int → Int) (xs : List Tr) (z : Tr) : Prop := match xs with
  | [.int i, .int j] => z = .int (f i j)
  | _ => False
/-- list(x), tuple(x) -/
def gList (xs : List Tr) (z : Tr) : Prop := match xs with
  | [.lst ys] => z = .lst ys
  | [.scr ns] => z = .lst (ns.map Tr.int)
  | [.tup ys] => z = .lst ys
  | _ => False
theorem c_list : CallT K (fun xs H Q => ∃ p ys, xs = [.ref p] ∧ (SqL K H p ys ∨ SqT K H p ys) ∧ ∀ l, H l = none → Q (.ref l) (upd H l (.lst ys))) gList := by
  intro L F H S I xs z vs R hd r hg k
  have fin : ∀ (p : Addr) (ys : List Tr) (us : List V), z = .lst ys → RepL K I ys us → (SqL K H p us ∨ SqT K H p us) → ∃ p' ys, [V.ref p] = [.ref p'] ∧ (SqL K H p' ys ∨ SqT K H p' ys) ∧ ∀ l, H l = none → R (.ref l) (upd H l (.lst ys)) := fun p ys us e h q => by
    subst e
    exact ⟨p, us, rfl, q, fun l nl => k _ _ _ (hd.imm nl) (upd_sub (hd.freeI nl)) ⟨l, us, rfl, upd_same, h.mono (upd_sub (hd.freeI nl))⟩⟩
  unfold gList at hg
  split at hg
  · rename_i ys e0
    obtain ⟨x, rfl, e⟩ := map1 e0
    obtain ⟨v, rfl, r1⟩ := RepL.one r
    obtain ⟨a, us, rfl, h1, h2⟩ := vw_lst hd r1 e
    exact fin a ys us hg h2 (.inl (.inl (.inl h1)))
  · rename_i ys e0
    obtain ⟨x, rfl, e⟩ := map1 e0
    obtain ⟨v, rfl, r1⟩ := RepL.one r
    obtain ⟨a, rfl, h1⟩ := vw_scr hd r1 e
    exact fin a _ _ hg (RepL.ints ys) (.inl h1)
  · rename_i ys e0
    obtain ⟨x, rfl, e⟩ := map1 e0
    obtain ⟨v, rfl, r1⟩ := RepL.one r
    obtain ⟨a, us, rfl, h1, h2⟩ := vw_tup hd r1 e
    exact fin a ys us hg h2 (.inr h1)
  · exact hg.elim
def gTuple (xs : List Tr) (z : Tr) : Prop := match xs with
  | [.lst ys] => z = .tup ys
  | [.tup ys] => z = .tup ys
  | _ => False
theorem c_tuple : CallT K (fun xs H Q => ∃ p ys, xs = [.ref p] ∧ ((SqL K H p ys ∧ ∀ l, H l = none → Q (.ref l) (upd H l (.tup ys))) ∨ (SqT K H p ys ∧ Q (.ref p) H))) gTuple := by
  intro L F H S I xs z vs R hd r hg k
  unfold gTuple at hg
  split at hg
  · rename_i ys e0
    obtain ⟨x, rfl, e⟩ := map1 e0
    obtain ⟨v, rfl, r1⟩ := RepL.one r
    obtain ⟨a, us, rfl, h1, h2⟩ := vw_lst hd r1 e
    subst hg
    exact ⟨a, us, rfl, .inl ⟨.inl (.inl h1), fun l nl => k _ _ _ (hd.imm nl) (upd_sub (hd.freeI nl)) ⟨l, us, rfl, .inl (.inl upd_same), h2.mono (upd_sub (hd.freeI nl))⟩⟩⟩
  · rename_i ys e0
    obtain ⟨x, rfl, e⟩ := map1 e0
    obtain ⟨v, rfl, r1⟩ := RepL.one r
    obtain ⟨a, us, e1, h1, h2⟩ := vw_tup hd r1 e
    subst e1
    subst hg
    refine ⟨a, us, rfl, .inr ⟨h1, k _ H I hd (Same.refl _) ?_⟩⟩
    rcases vw_cases S x with ⟨e1, _⟩ | ⟨b, c, rfl, ea, e1⟩
    · rw [e1] at e; subst e; exact r1
    · obtain ⟨_, _, o, _, q⟩ := hd.cel b _ ea
      rw [e1] at e; subst e; exact q.elim
  · exact hg.elim
/-! ### isinstance -/
/-- what an own class must have that its instances are looked at -/
structure ClsI (K : PySem.W.Frag) (C : Addr) : Prop where
  cl : Cls K C
  ha : PySem.W.findIn K (.ref C) "__class__" = some (some (.builtin "object.__class__"))
  hn : PySem.W.specialIn K (.builtin "object.__class__") "__get__" = some (some (.builtin "getset_descriptor.__get__"))
  ht : PySem.W.takesIn K (.builtin "object.__class__") = some true
  hm : PySem.W.mroIn K C (.type "object") = some true
def tyT (K : PySem.W.Frag) (x : Tr) (t : Value) : Prop := match x with
  | .non => t = .type "NoneType"
  | .bl _ => t = .type "bool"
  | .int _ => t = .type "int"
  | .str _ => t = .type "str"
  | .lst _ => t = .type "list"
  | .scr _ => t = .type "list"
  | .tup _ => t = .type "tuple"
  | .dic _ _ => t = .type "dict"
  | .ins C _ _ => ClsI K C ∧ t = .ref C
  | _ => False
def clsT (c : Tr) (u : Value) : Prop := match c with
  | .ty n => u = .type n
  | .ref C => u = .ref C
  | _ => False
theorem sqL_ty {H : Hp} {a : Addr} {vs : List V} (h : SqL K H a vs) : TyX K H (.ref a) (.type "list") := by
  rcases h with (h | ⟨o, h⟩) | ⟨o, its, n, h1, h2, _⟩
  · exact .base (.lst h)
  · exact .base (.frz h)
  · exact .kList h1 h2
theorem sqT_ty {H : Hp} {a : Addr} {vs : List V} (h : SqT K H a vs) : TyX K H (.ref a) (.type "tuple") := by
  rcases h with (h | ⟨o, h⟩) | ⟨o, its, n, h1, h2, _⟩
  · exact .base (.tup h)
  · exact .fTuple h
  · exact .kTuple h1 h2
theorem tyT_ty {L : Lk} {F H I : Hp} {S : Sto} {x : Tr} {v : V} {t : Value} (hd : Hd K L F H S I) (r : Rep K I x v) (e : tyT K (vw S x) t) : TyX K H v t := by
  unfold tyT at e
  split at e
  · rename_i z; cases vw_eq_non hd r z; subst e; exact .base .non
  · rename_i z; cases vw_eq_bl hd r z; subst e; exact .base (.bl _)
  · rename_i z; cases vw_eq_int hd r z; subst e; exact .base (.int _)
  · rename_i z; cases vw_eq_str hd r z; subst e; exact .base (.str _)
  · rename_i z; obtain ⟨a, vs, rfl, h1, _⟩ := vw_lst hd r z; subst e; exact .base (.lst h1)
  · rename_i z; obtain ⟨a, rfl, h1⟩ := vw_scr hd r z; subst e; exact sqL_ty h1
  · rename_i z; obtain ⟨a, vs, rfl, h1, _⟩ := vw_tup hd r z; subst e; exact sqT_ty h1
  · rename_i z
    obtain ⟨a, vs, rfl, h1, _⟩ := vw_dic hd r z
    subst e
    rcases h1 with h1 | ⟨o, h1⟩
    · exact .base (.dK h1)
    · exact .fDict h1
  · rename_i z
    obtain ⟨a, dx, vs, rfl, h1, _⟩ := vw_ins hd r z
    obtain ⟨c, rfl⟩ := e
    exact .base (.ins h1 c.cl c.ha c.hn c.ht c.hm)
  · exact e.elim
theorem clsT_cls {L : Lk} {F H I : Hp} {S : Sto} {x : Tr} {v : V} {u : Value} (hd : Hd K L F H S I) (r : Rep K I x v) (e : clsT (vw S x) u) : ClsV v u := by
  unfold clsT at e
  split at e
  · rename_i n z; cases vw_eq_ty hd r z; subst e; exact .ty n
  · rename_i n z; cases vw_eq_ref hd r z; subst e; exact .own n
  · exact e.elim
/-- isinstance(x, c) -/
def gIsi (K : PySem.W.Frag) (xs : List Tr) (z : Tr) : Prop := match xs with
  | [x, c] => ∃ t u b, tyT K x t ∧ clsT c u ∧ PySem.W.kitOne K t u = some b ∧ z = .bl b
  | _ => False
theorem c_isi : CallT K (rIsi K) (gIsi K) := by
  intro L F H S I xs z vs R hd r hg k
  unfold gIsi at hg
  split at hg
  · rename_i x0 c e
    obtain ⟨x, y, rfl, e1, e2⟩ := map2 e
    obtain ⟨v, w, rfl, r1, r2⟩ := RepL.two r
    obtain ⟨t, u, b, h1, h2, h3, rfl⟩ := hg
    rw [← e1] at h1
    rw [← e2] at h2
    exact ⟨v, w, t, u, b, rfl, clsT_cls hd r2 h2, tyT_ty hd r1 h1, h3, k _ H I hd (Same.refl _) rfl⟩
  · exact hg.elim
/-- isinstance(x, (c, d)) -/
def uIsi2 (K : PySem.W.Frag) (u w : Value) (te : UE) : UE := fun ρ S Q X => te ρ S (fun x S1 => ∃ t b e, tyT K (vw S1 x) t ∧ PySem.W.kitOne K t u = some b ∧ PySem.W.kitOne K t w = some e ∧ Q (.bl (b || e)) S1) X
end
end KQ
namespace KQ
open PySem PySem.Spec PyProof.Rows L2 TL KB
/-! ### range, texts, enumerate -/
section
variable {X : Cx} {W : WX} {tg e : Expr} {te : UE} {ta : UA} {p pos : Pos}
def rngT (lo : Int) : Nat → List Tr
  | 0 => []
  | n + 1 => .int lo :: rngT (lo + 1) n
theorem rngT_len : ∀ (n : Nat) (lo : Int), (rngT lo n).length = n
  | 0, _ => rfl
  | n + 1, lo => by show (rngT (lo + 1) n).length + 1 = _; rw [rngT_len n]
theorem rngT_get : ∀ (n : Nat) (lo : Int) (i : Nat), i < n → (rngT lo n)[i]? = some (.int (lo + i))
  | 0, _, _, h => absurd h (Nat.not_lt_zero _)
  | n + 1, lo, 0, _ => by show some (Tr.int lo) = some (.int (lo + ((0 : Nat) : Int))); rw [Int.natCast_zero, Int.add_zero]
  | n + 1, lo, i + 1, h => by
    show (rngT (lo + 1) n)[i]? = _
    rw [rngT_get n (lo + 1) i (by omega)]
    congr 2
    omega
def uRng1 (ta : UA) : UI := fun ρ S R X => ta ρ S (fun xs S1 => ∃ j, xs = [.int j] ∧ (-(2 ^ 62) ≤ j ∧ j < 2 ^ 62) ∧ R ⟨rngT 0 j.toNat, fun _ => True⟩ S1) X
def uRng2 (ta : UA) : UI := fun ρ S R X => ta ρ S (fun xs S1 => ∃ i j, xs = [.int i, .int j] ∧ (-(2 ^ 62) ≤ i ∧ i < 2 ^ 62 ∧ -(2 ^ 62) ≤ j ∧ j < 2 ^ 62) ∧ R ⟨rngT i (j - i).toNat, fun _ => True⟩ S1) X
theorem it_rng {K : PySem.W.Frag} {L : Lk} {I : Hp} (lo : Int) (n : Nat) : ItRep K L I (Itr lo n) ⟨rngT lo n, fun _ => True⟩ where
  go := fun F i H S I' _ _ _ h => by show i < n; rw [← rngT_len n lo]; exact h
  stop := fun F i H S I' _ _ _ h => by show n ≤ i; rw [← rngT_len n lo]; exact Nat.le_of_eq h.symm
  yld := fun F i H S I' v H' x hd _ _ e y => by
    obtain ⟨rfl, rfl⟩ := y
    have hi : i < n := by
      by_cases z : i < n
      · exact z
      · rw [List.getElem?_eq_none (by rw [rngT_len]; omega)] at e; cases e
    rw [rngT_get n lo i hi] at e
    cases e
    exact ⟨I', hd, Same.refl _, rfl⟩
theorem i_rng1 {a : Expr} (hg : Gl X "range") (hm : X.mg "range" = none) (ha : TPA X W [a] ta) (hs : starEach [a] X.env = [(false, eval a X.env)] := by rfl) : TPI X W tg (.Call (.Name "range" p) [a] [] pos) (uRng1 ta) :=
  ⟨wkI (pi_range1 hg hm ha.pe hs) fun σ H R ⟨L, F, S, I, ρ, hd, sl, h⟩ => lA_then ha.mono hd sl h (fun _ _ _ _ h => h) fun xs S1 vs H1 I1 ⟨j, e, c, q⟩ hd1 s1 sl1 r => by
    subst e
    obtain ⟨v, rfl, r1⟩ := RepL.one r
    cases r1
    exact ⟨j, rfl, c.1, c.2, q _ H1 I1 hd1 s1 (it_rng 0 _)⟩, fun ρ S Q Q' X X' hQ hX h => ha.mono _ _ _ _ _ _ (fun xs S1 ⟨j, e, c, q⟩ => ⟨j, e, c, hQ _ _ q⟩) hX h⟩
def sgnT (c : Nat) : Tr := .str ⟨#[c]⟩
def uStrI (te : UE) : UI := fun ρ S R X => te ρ S (fun x S1 => ∃ z, vw S1 x = .str z ∧ R ⟨z.cps.toList.map sgnT, fun _ => True⟩ S1) X
def enumT : Nat → List Tr → List Tr
  | _, [] => []
  | n, x :: xs => .tup [.int n, x] :: enumT (n + 1) xs
/-- enumerate(x), x a list -/
def uEnum (ta : UA) : UI := fun ρ S R X => ta ρ S (fun ys S1 => ∃ x xs, ys = [x] ∧ asL (vw S1 x) = some xs ∧ R ⟨enumT 0 xs, fun S' => vw S' x = vw S1 x⟩ S1) X
end
/-! ### fields -/
def fget (f : Str) : List Str → List Tr → Option Tr
  | g :: gs, x :: xs => if f = g then some x else fget f gs xs
  | _, _ => none
theorem fget_lk {K : PySem.W.Frag} {I : Hp} {f : Str} : ∀ {fs : List Str} {xs : List Tr} {vs : List V} {x : Tr}, RepL K I xs vs → fget f fs xs = some x → ∃ v, (fs.zip vs).lookup f = some v ∧ Rep K I x v
  | [], _, _, _, _, e => by simp [fget] at e
  | _ :: _, [], _, _, _, e => by simp [fget] at e
  | g :: gs, y :: xs, vs, x, r, e => by
    obtain ⟨v, ws, rfl, r1, r2⟩ := r
    by_cases h : f = g
    · subst h
      rw [fget, if_pos rfl] at e
      cases e
      exact ⟨v, by simp [List.lookup], r1⟩
    · rw [fget, if_neg h] at e
      obtain ⟨w, e1, r3⟩ := fget_lk r2 e
      refine ⟨w, ?_, r3⟩
      have hb : (f == g) = false := by simpa using h
      rw [List.zip_cons_cons, List.lookup_cons, hb]
      exact e1
/-- the class at C has no attribute f of its own -/
structure ClsF (K : PySem.W.Frag) (C : Addr) (f : Str) : Prop where
  cl : Cls K C
  no : NoAttr K C f
def uFld (K : PySem.W.Frag) (f : Str) (te : UE) : UE := fun ρ S Q X => te ρ S (fun x S1 => ∃ C fs xs y, vw S1 x = .ins C fs xs ∧ ClsF K C f ∧ fget f fs xs = some y ∧ Q y S1) X
/-- a new value of a field: the names, the values -/
def fputN (f : Str) : List Str → List Str
  | [] => [f]
  | g :: gs => if g = f then g :: gs else g :: fputN f gs
def fputX (f : Str) (y : Tr) : List Str → List Tr → List Tr
  | g :: gs, x :: xs => if g = f then y :: xs else x :: fputX f y gs xs
  | _, _ => [y]
section
variable {X : Cx} {W : WX} {o e : Expr} {te to : UE} {pos p' : Pos} {f : Str}
/-- o.f = e, o a cell -/
def uSFld (K : PySem.W.Frag) (f : Str) (to te : UE) : US := fun D X ρ S => te ρ S (fun y S1 => to ρ S1 (fun x S2 => ∃ a C fs xs, x = .ref a ∧ S2 a = some (.ins C fs xs) ∧ ClsF K C f ∧ fs.length < 1000 ∧ D.nx ρ (put S2 a (.ins C (fputN f fs) (fputX f y fs xs)))) (atR X ρ)) (atR X ρ)
/-! ### d[k] = e -/
def kputN (k : Key) (ks : List Key) : List Key := if hasK k ks = true then ks else ks ++ [k]
def kmap (k : Key) (y : Tr) : List Key → List Tr → List Tr
  | j :: js, x :: xs => (if j = k then y else x) :: kmap k y js xs
  | _, xs => xs
def kputX (k : Key) (y : Tr) (ks : List Key) (xs : List Tr) : List Tr := if hasK k ks = true then kmap k y ks xs else xs ++ [y]
theorem kmap_rep {K : PySem.W.Frag} {I : Hp} {y : Tr} {w : V} {k : Key} (ry : Rep K I y w) : ∀ {ks : List Key} {xs : List Tr} {vs : List V}, ks.length = xs.length → RepL K I xs vs → ∃ ws, (ks.zip vs).map (fun kv => if kv.1 = k then (kv.1, w) else kv) = ks.zip ws ∧ (kmap k y ks xs).length = xs.length ∧ RepL K I (kmap k y ks xs) ws
  | [], [], vs, _, r => by cases r; exact ⟨[], rfl, rfl, rfl⟩
  | [], _ :: _, _, e, _ => nomatch e
  | _ :: _, [], _, e, _ => nomatch e
  | j :: js, x :: xs, vs, e, r => by
    obtain ⟨v, us, rfl, r1, r2⟩ := r
    obtain ⟨ws, h1, h2, h3⟩ := kmap_rep (k := k) ry (ks := js) (by simpa using e) r2
    by_cases h : j = k
    · refine ⟨w :: ws, by simp [h, h1], by simp [kmap, h2], ?_⟩
      simp only [kmap, if_pos h]
      exact .cons ry h3
    · refine ⟨v :: ws, by simp [h, h1], by simp [kmap, h2], ?_⟩
      simp only [kmap, if_neg h]
      exact .cons r1 h3
theorem hasK_zip {k : Key} : ∀ {ks : List Key} {vs : List V}, ks.length = vs.length → (ks.zip vs).any (fun kv => decide (kv.1 = k)) = hasK k ks
  | [], [], _ => rfl
  | [], _ :: _, e => nomatch e
  | _ :: _, [], e => nomatch e
  | j :: js, v :: vs, e => by
    rw [List.zip_cons_cons, List.any_cons, hasK_zip (by simpa using e)]
    rfl
theorem zip_snoc {α β : Type} : ∀ {ks : List α} {vs : List β} {k : α} {v : β}, ks.length = vs.length → ks.zip vs ++ [(k, v)] = (ks ++ [k]).zip (vs ++ [v])
  | [], [], _, _, _ => rfl
  | [], _ :: _, _, _, e => nomatch e
  | _ :: _, [], _, _, e => nomatch e
  | j :: js, u :: us, k, v, e => by
    simp only [List.zip_cons_cons, List.cons_append]
    rw [zip_snoc (by simpa using e)]
theorem kput_rep {K : PySem.W.Frag} {I : Hp} {y : Tr} {w : V} {k : Key} {ks : List Key} {xs : List Tr} {vs : List V} (ry : Rep K I y w) (e : ks.length = xs.length) (r : RepL K I xs vs) : ∃ ws, putK (ks.zip vs) k w = (kputN k ks).zip ws ∧ (kputN k ks).length = (kputX k y ks xs).length ∧ RepL K I (kputX k y ks xs) ws := by
  have el : ks.length = vs.length := by rw [r.len]; exact e
  unfold putK kputN kputX
  rw [hasK_zip el]
  by_cases h : hasK k ks = true
  · obtain ⟨ws, h1, h2, h3⟩ := kmap_rep (k := k) ry e r
    rw [if_pos h, if_pos h, if_pos h]
    exact ⟨ws, h1, by rw [h2]; exact e, h3⟩
  · rw [if_neg h, if_neg h, if_neg h]
    exact ⟨vs ++ [w], zip_snoc el, by simp [e], r.app (.cons ry rfl)⟩
variable {i : Expr} {ti : UE}
def uDPut (to ti te : UE) : US := fun D X ρ S => te ρ S (fun y S1 => to ρ S1 (fun x S2 => ti ρ S2 (fun j S3 => ∃ a ks xs k, x = .ref a ∧ S3 a = some (.dic ks xs) ∧ keyT (vw S3 j) = some k ∧ ks.length < sizeLine ∧ D.nx ρ (put S3 a (.dic (kputN k ks) (kputX k y ks xs)))) (atR X ρ)) (atR X ρ)) (atR X ρ)
theorem s_dput (hu : X.A.units + 1 < cLine) (ho : TPE X W o to) (hi : TPE X W i ti) (he : TPE X W e te) (hs : swapsWith e (some (.Subscript o i p')) pos.line X.env = pure false) : TPS X W (.Assign [.Subscript o i p'] e pos) (uDPut to ti te) :=
  ⟨wkS (ps_dput hu ho.pe hi.pe he.pe hs) fun D σ H ⟨L, F, S, I, ρ, hd, sl, h⟩ => lE_then he.mono hd sl h (dnXS_at sl) fun y S1 w H1 I1 q hd1 s1 sl1 ry =>
    lE_then ho.mono hd1 sl1 q (fun c f x S' z => dnXS_at sl1 _ _ _ _ (dnXS_up s1 _ _ _ _ _ z)) fun x S2 v H2 I2 q hd2 s2 sl2 rx =>
    lE_then hi.mono hd2 sl2 q (fun c f x S' z => dnXS_at sl2 _ _ _ _ (dnXS_up (s1.trans s2) _ _ _ _ _ z)) fun j S3 u H3 I3 ⟨a, ks, xs, k, e, ea, ek, hl, q9⟩ hd3 s3 sl3 rj => by
      subst e
      cases rx
      cases keyT_rep hd3 rj ek
      obtain ⟨_, _, o, ho, vs, rfl, el, rl⟩ := hd3.cel a _ ea
      obtain ⟨ws, h1, h2, h3⟩ := kput_rep (k := k) (ry.mono (s2.trans s3)) el rl
      refine ⟨a, _, rfl, .inl ⟨_, k, ho, rfl, by rw [List.length_zip]; omega, rfl⟩, ?_⟩
      rw [h1]
      exact q9 σ _ I3 (hd3.mut ea ⟨ws, rfl, h2, h3⟩) ((s1.trans s2).trans s3) sl3,
    fun D D' X X' ρ S hD hX h => he.mono _ _ _ _ _ _ (fun y S1 q => ho.mono _ _ _ _ _ _ (fun x S2 q => hi.mono _ _ _ _ _ _ (fun j S3 ⟨a, ks, xs, k, e, ea, ek, hl, q⟩ => ⟨a, ks, xs, k, e, ea, ek, hl, hD.1 _ _ q⟩) (fun _ _ _ _ z => hX _ _ _ _ _ z) q) (fun _ _ _ _ z => hX _ _ _ _ _ z) q) (fun _ _ _ _ z => hX _ _ _ _ _ z) h⟩
/-- xs[i] = e, xs a cell -/
def uLPut (to ti te : UE) : US := fun D X ρ S => te ρ S (fun y S1 => to ρ S1 (fun x S2 => ti ρ S2 (fun j S3 => ∃ a xs n k, x = .ref a ∧ S3 a = some (.lst xs) ∧ vw S3 j = .int n ∧ ixN xs.length n = some k ∧ D.nx ρ (put S3 a (.lst (xs.set k y)))) (atR X ρ)) (atR X ρ)) (atR X ρ)
end
end KQ
namespace KQ
open PySem PySem.Spec PyProof.Rows L2 TL KB
/-! ### a slot's cells become trees -/
section
variable {X : Cx} {W : WX} {rest : List Stmt} {u : US}
def uFrz (i : Nat) (u : US) : US := fun D X ρ S => ∃ (x y : Tr) (S' : Sto), ρ[i]? = some (some x) ∧ Frz x S y S' ∧ u D X (ρ.set i (some y)) S'
end
/-! ### methods of lists and texts -/
section
variable {X : Cx} {W : WX} {o e : Expr} {es : List Expr} {to : UE} {ta : UA} {apos cpos : Pos} {id : String} {name : Str}
def tyOk (T : String) (x : Tr) : Prop := match x with
  | .str _ => T = "str"
  | .lst _ => T = "list"
  | .scr _ => T = "list"
  | _ => False
theorem tyOk_ty {K : PySem.W.Frag} {L : Lk} {F H I : Hp} {S : Sto} {T : String} {x : Tr} {v : V} (hd : Hd K L F H S I) (r : Rep K I x v) (h : tyOk T (vw S x)) : tyV K T v H := by
  unfold tyOk at h
  split at h
  · rename_i z e; cases vw_eq_str hd r e; exact h
  · rename_i z e; obtain ⟨a, vs, rfl, h1, _⟩ := vw_lst hd r e; exact .inl ⟨h, vs, .inl (.inl h1)⟩
  · rename_i z e; obtain ⟨a, rfl, h1⟩ := vw_scr hd r e; exact .inl ⟨h, _, h1⟩
  · exact h.elim
/-- a method that reads -/
def uMt (T : String) (g : Tr → List Tr → Tr → Prop) (to : UE) (ta : UA) : UE := fun ρ S Q X => to ρ S (fun x S1 => tyOk T (vw S1 x) ∧ ta ρ S1 (fun ys S2 => ∃ z, g (vw S2 x) (ys.map (vw S2)) z ∧ Q z S2) X) X
def MtT (K : PySem.W.Frag) (r : V → List V → Hp → VK → Prop) (g : Tr → List Tr → Tr → Prop) : Prop := ∀ {L : Lk} {F H : Hp} {S : Sto} {I : Hp} {x : Tr} {ys : List Tr} {z : Tr} {v : V} {vs : List V} {R : VK}, Hd K L F H S I → Rep K I x v → RepL K I ys vs → g (vw S x) (ys.map (vw S)) z →
  (∀ v' H' I', Hd K L F H' S I' → Same I I' → Rep K I' z v' → R v' H') → r v vs H R
theorem mono_mt {T : String} {g : Tr → List Tr → Tr → Prop} (mo : MonoE to) (ma : MonoA ta) : MonoE (uMt T g to ta) := fun ρ S Q Q' X X' hQ hX h => mo _ _ _ _ _ _ (fun x S1 ⟨c, q⟩ => ⟨c, ma _ _ _ _ _ _ (fun ys S2 ⟨z, hg, q⟩ => ⟨z, hg, hQ _ _ q⟩) hX q⟩) hX h
theorem e_mt {T : String} {r : V → List V → Hp → VK → Prop} {g : Tr → List Tr → Tr → Prop} (pa : PlainAttrs T) (slot : Slot T name id) (hty : typeOf (.builtin id) = pure (.type "method_descriptor")) (hm : MtR X id r) (s : MtT X.K r g) (ho : TPE X W o to) (ha : TPA X W (e :: es) ta)
    (hb : PE X o (lE X.K W to) → PA X (e :: es) (lA X.K W ta) → PE X (.Call (.Attribute o name apos) (e :: es) [] cpos) (tBM X.K T r (lE X.K W to) (lA X.K W ta))) : TPE X W (.Call (.Attribute o name apos) (e :: es) [] cpos) (uMt T g to ta) :=
  ⟨wkE (hb ho.pe ha.pe) fun σ H R ⟨L, F, S, I, ρ, hd, sl, h⟩ => lE_then ho.mono hd sl h (fun _ _ _ _ h => h) fun x S1 v H1 I1 ⟨c, q⟩ hd1 s1 sl1 rx => ⟨tyOk_ty hd1 rx c, lA_then ha.mono hd1 sl1 q (dnX_up s1) fun ys S2 vs H2 I2 ⟨z, hg, q⟩ hd2 s2 sl2 ry =>
    s hd2 (rx.mono s2) ry hg fun v' H' I' hd' s' r' => q v' H' I' hd' ((s1.trans s2).trans s') r'⟩, mono_mt ho.mono ha.mono⟩
/-- a method that changes a list -/
def uMm (g : Sto → List Tr → List Tr → List Tr → Tr → Prop) (to : UE) (ta : UA) : UE := fun ρ S Q X => to ρ S (fun x S1 => tyOk "list" (vw S1 x) ∧ ta ρ S1 (fun ys S2 => ∃ a xs xs' z, x = .ref a ∧ S2 a = some (.lst xs) ∧ g S2 xs ys xs' z ∧ Q z (put S2 a (.lst xs'))) X) X
end
section
variable {K : PySem.W.Frag}
def gAppend (S : Sto) (xs ys xs' : List Tr) (z : Tr) : Prop := match ys with
  | [y] => xs.length < sizeLine ∧ xs' = xs ++ [y] ∧ z = .non
  | _ => False
def gExtend (S : Sto) (xs ys xs' : List Tr) (z : Tr) : Prop := match ys with
  | [y] => ∃ zs, vw S y = .lst zs ∧ xs.length + zs.length ≤ sizeLine ∧ xs' = xs ++ zs ∧ z = .non
  | _ => False
def gInsert (S : Sto) (xs ys xs' : List Tr) (z : Tr) : Prop := match ys with
  | [.int i, y] => xs.length < sizeLine ∧ 0 ≤ i ∧ i < 2 ^ 63 ∧ xs' = xs.take i.toNat ++ [y] ++ xs.drop i.toNat ∧ z = .non
  | _ => False
def gPop (S : Sto) (xs ys xs' : List Tr) (z : Tr) : Prop := ys = [] ∧ xs[xs.length - 1]? = some z ∧ xs' = xs.dropLast
theorem RepL.dropLast {I : Hp} {xs : List Tr} {vs : List V} (r : RepL K I xs vs) : RepL K I xs.dropLast vs.dropLast := by
  rw [List.dropLast_eq_take, List.dropLast_eq_take, r.len]
  exact r.take _
/-- texts -/
def gJoin (x : Tr) (ys : List Tr) (z : Tr) : Prop := match x, ys with
  | .str a, [.lst zs] => ∃ ts : List Str, zs = ts.map Tr.str ∧ (ts.map (·.length)).sum + ts.length * a.length ≤ 16777216 ∧ z = .str (Txt.join a ts)
  | .str a, [.tup zs] => ∃ ts : List Str, zs = ts.map Tr.str ∧ (ts.map (·.length)).sum + ts.length * a.length ≤ 16777216 ∧ z = .str (Txt.join a ts)
  | _, _ => False
theorem RepL.strs_eq {I : Hp} : ∀ {ts : List Str} {vs : List V}, RepL K I (ts.map Tr.str) vs → vs = ts.map V.str
  | [], vs, r => by cases r; rfl
  | t :: ts, vs, r => by
    obtain ⟨v, ws, rfl, r1, r2⟩ := r
    cases r1
    rw [RepL.strs_eq r2]; rfl
theorem m_join {X : Cx} : MtT X.K (fun x xs H Q => ∃ a p, ∃ ys : List Str, x = .str a ∧ xs = [.ref p] ∧ (SqL X.K H p (ys.map V.str) ∨ SqT X.K H p (ys.map V.str)) ∧ (ys.map (·.length)).sum + ys.length * a.length ≤ 16777216 ∧ Q (.str (Txt.join a ys)) H) gJoin := by
  intro L F H S I x ys z v vs R hd rx ry hg k
  unfold gJoin at hg
  split at hg
  · rename_i a zs e1 e0
    obtain ⟨ts, rfl, c, rfl⟩ := hg
    obtain ⟨y, rfl, e2⟩ := map1 e0
    obtain ⟨w, rfl, r1⟩ := RepL.one ry
    cases vw_eq_str hd rx e1
    obtain ⟨b, us, rfl, h1, h2⟩ := vw_lst hd r1 e2
    cases RepL.strs_eq h2
    exact ⟨a, b, ts, rfl, rfl, .inl (.inl (.inl h1)), c, k _ H I hd (Same.refl _) rfl⟩
  · rename_i a zs e1 e0
    obtain ⟨ts, rfl, c, rfl⟩ := hg
    obtain ⟨y, rfl, e2⟩ := map1 e0
    obtain ⟨w, rfl, r1⟩ := RepL.one ry
    cases vw_eq_str hd rx e1
    obtain ⟨b, us, rfl, h1, h2⟩ := vw_tup hd r1 e2
    cases RepL.strs_eq h2
    exact ⟨a, b, ts, rfl, rfl, .inr h1, c, k _ H I hd (Same.refl _) rfl⟩
  · exact hg.elim
def gIsdigit (x : Tr) (ys : List Tr) (z : Tr) : Prop := match x, ys with
  | .str a, [] => z = .bl (Txt.isdigit a)
  | _, _ => False
def gRmp (x : Tr) (ys : List Tr) (z : Tr) : Prop := match x, ys with
  | .str a, [.str b] => a.length ≤ sizeLine ∧ z = .str (Txt.removeprefix a b)
  | _, _ => False
end
/-! ### dicts walked under a lock -/
section
variable {X : Cx} {pos : Pos}
def srcV (i : Nat) : Rho → Sto → List Key → List Tr → Prop := fun ρ S ks xs => ρ[i]? = some (some (.dic ks xs))
def srcF (K : PySem.W.Frag) (i : Nat) (f : Str) : Rho → Sto → List Key → List Tr → Prop := fun ρ S ks xs => ∃ (x : Tr) (C : Addr) (fs : List Str) (ys : List Tr), ρ[i]? = some (some x) ∧ vw S x = .ins C fs ys ∧ ClsF K C f ∧ fget f fs ys = some (.dic ks xs)
/-- what is walked -/
inductive DK where
  | keys | vals | items
def DK.list : DK → List Key → List Tr → List Tr
  | .keys, k :: ks, x :: xs => (match k with | .inl n => .int n | .inr z => .str z) :: DK.list .keys ks xs
  | .vals, k :: ks, x :: xs => x :: DK.list .vals ks xs
  | .items, k :: ks, x :: xs => .tup [(match k with | .inl n => .int n | .inr z => .str z), x] :: DK.list .items ks xs
  | _, _, _ => []
def kT : Key → Tr
  | .inl n => .int n
  | .inr z => .str z
def DK.it : DK → Addr → Obj → List (Key × V) → It
  | .keys => Itk
  | .vals => Itd
  | .items => Iti
/-- the walk of a dict, as the layer below reads it -/
def DK.walk (w : DK) (td : TE) : TI := fun σ H R => td σ H fun x H1 => ∃ d o kvs, x = .ref d ∧ H1 d = some (.frz o (.dK kvs)) ∧ R (w.it d o kvs) H1
def uForD (w : DK) (src : Rho → Sto → List Key → List Tr → Prop) (p : Pat) (tb : US) : US := fun D X ρ S => ∃ ks xs, src ρ S ks xs ∧ uLoop (fun _ => True) p tb D X (DK.list w ks xs) ρ S
/-! a comprehension over a dict -/
def uLcD (w : DK) (src : Rho → Sto → List Key → List Tr → Prop) (p : Pat) (tt : UT) (te : UE) (vs : List Nat) : UE := fun ρ S Q X => ∃ ks xs, src ρ S ks xs ∧ uLcL (fun _ => True) p tt te (wipeR ρ vs) Q (DK.list w ks xs) [] S
end
end KQ
namespace KQ
open PySem PySem.Spec PyProof.Rows L2 TL KB
/-! ### own methods -/
structure MthT (P : Program) (w : World) (K : PySem.W.Frag) (mg : Str → Option Value) (base : Heap) (k : Nat) (C : Addr) (m : Str) (t : TSp) : Prop where
  ex : ∃ (f : Addr) (fd : FuncData) (ps : List Str), Meth K C m f ∧ Binds K fd ps [] ∧ FnOk P w K mg base (L2N.CX P w) k f fd ps (lSp K t)
  cl : Cls K C
  mono : MonoSp t
def uMeth (m : Str) (ms : Addr → TSp → Prop) (to : UE) (ta : UA) : UE := fun ρ S Q X => to ρ S (fun x S1 => ∃ C fs xs t, vw S1 x = .ins C fs xs ∧ ms C t ∧ fget m fs xs = none ∧ ta ρ S1 (fun ys S2 => t (x :: ys) S2 Q X) X) X
section
variable {X : Cx} {W : WX} {k : Nat} {m : Str} {ms : Addr → TSp → Prop} {o e : Expr} {es : List Expr} {to : UE} {ta : UA} {apos pos : Pos}
end
/-! ### a class called -/
structure NewT (P : Program) (w : World) (K : PySem.W.Frag) (mg : Str → Option Value) (base : Heap) (k : Nat) (x : Str) (C : Addr) (t : TSp) : Prop where
  ex : ∃ (f : Addr) (fd : FuncData) (ps : List Str) (dts : List Tr) (tI : TSp) (ds : List Value) (dvs : List V), Mk K C f ∧ mg x = some (.ref C) ∧ Binds K fd ps ds ∧ Vals dvs ds ∧ (∀ I, RepL K I dts dvs) ∧ FnOk P w K mg base (L2N.CX P w) k f fd ps (lSp K tI) ∧ MonoSp tI ∧
    (∀ xs S Q X, Closed Q → ClosedX X → t xs S Q X → ∀ a, S a = none → tI (.ref a :: (xs ++ dts)) (put S a (.ins C [] [])) (fun v S2 => v = .non ∧ Q (.ref a) S2) X) ∧
    ∃ (oc : Value) (od : Option Addr) (osl : Array (Option Value)), K.lookup f = some ⟨oc, od, .func fd, osl⟩
  mono : MonoSp t
section
variable {X : Cx} {W : WX} {k : Nat} {x : Str} {C : Addr} {t : TSp} {e : Expr} {es : List Expr} {ta : UA} {p pos : Pos}
end
/-! ### defs and methods by their bodies -/
section
variable {P : Program} {w : World} {K : PySem.W.Frag} {mg : Str → Option Value} {base : Heap}
/-- a body that keeps a promise: qual the def's long name -/
structure BodyT (P : Program) (w : World) (K : PySem.W.Frag) (mg : Str → Option Value) (base : Heap) (k : Nat) (qual : Str) (st : Stmt) (N : List Str) (us : US) : Prop where
  ex : ∀ (f : Addr) (cdv : Value) (A : Around) (outer : List Env) (s : Shared) (H : Hp) (E : XK), Room k (A.deeper (envOfC qual (defScope st) s.heap.objs.size f cdv)) → L2N.Takes (cxOf (L2N.CX P w) P w K mg base N qual (defScope st) f cdv A outer s H E) (fun cls d _ H => E cls d H) →
      PassesOwn (model P w) (cxOf (L2N.CX P w) P w K mg base N qual (defScope st) f cdv A outer s H E).A (cxOf (L2N.CX P w) P w K mg base N qual (defScope st) f cdv A outer s H E).env (cxOf (L2N.CX P w) P w K mg base N qual (defScope st) f cdv A outer s H E).xe →
      TPSs (cxOf (L2N.CX P w) P w K mg base N qual (defScope st) f cdv A outer s H E) (fun cls d _ H => E cls d H) (defBody st) us
theorem fnD_ok {x qual : Str} {st : Stmt} {dvs : List V} {kws : List (Str × V)} {f : Addr} {fd : FuncData} {N ps : List Str} {k : Nat} {tsp : TSp} {us : US} (D : FunD K x qual (defArgs st) (defBody st) (defScope st) dvs kws f fd) (S : FnScope N ps (defScope st))
    (len : ∀ xs S Q X, tsp xs S Q X → xs.length = ps.length) (body : BodyT P w K mg base k qual st N us)
    (h : ∀ xs S Q X, Closed Q → ClosedX X → tsp xs S Q X → us (endU Q) (endX X) (startT N xs) S) : FnOk P w K mg base (L2N.CX P w) (k + 1) f fd ps (lSp K tsp) := by
  refine D.ok S (fun vs H Q E ⟨_, _, _, _, xs, _, r, q⟩ => by rw [r.len]; exact len _ _ _ _ q) fun cdv A outer s H vs Q E hr ⟨L, F, S0, I, xs, hd, r, q⟩ => ?_
  have B := body.ex f cdv A outer s H E hr (L2N.takes_of rfl rfl rfl rfl) (passes_of rfl)
  exact ⟨_, B.pe, body_ok (st := st) (tsp := tsp) (X := cxOf (L2N.CX P w) P w K mg base N qual (defScope st) f cdv A outer s H E) B.mono hd r (h xs S0 _ _ dnV_closed (fun c fs ys S S' sb z d H' I' hd' s' ⟨vs, h1, h2, h3, h4, h5, h6⟩ => z d H' I' (hd'.fewer sb) s' ⟨vs, h1, h2, h3, h4, sb.noneAt h5, h6⟩) q)⟩
end
/-! ### names of the module, types -/
section
variable {X : Cx} {W : WX} {pos : Pos}
theorem e_ty {x : Str} {T : String} (hg : Gl X x) (hm : X.mg x = none) (hv : bootBuiltins x = some (.type T)) (hn : x ≠ "__name__" := by decide) (hdb : (x == ("__debug__" : Str)) = false := by decide) : TPE X W (.Name x pos) (uC (.ty T)) :=
  e_const (pe_bltn (v := .ty T) hg hm hv rfl hn hdb) fun _ => rfl
/-- {} that will change -/
def uDNew : UE := fun _ S Q _ => ∀ p, S p = none → Q (.ref p) (put S p (.dic [] []))
end
end KQ
namespace KQ
open PySem PySem.Spec PyProof.Rows L2 TL KB
section
variable {K : PySem.W.Frag} {X : Cx} {W : WX}
/-- o.f += e, o a cell, whole numbers -/
def uFldAug (K : PySem.W.Frag) (f : Str) (g : Int → Int → Int) (to te : UE) : US := fun D X ρ S => to ρ S (fun x S1 => ∃ a C fs xs i, x = .ref a ∧ S1 a = some (.ins C fs xs) ∧ ClsF K C f ∧ fget f fs xs = some (.int i) ∧ te ρ S1 (fun y S2 => ∃ fs2 xs2 j, vw S2 y = .int j ∧ S2 a = some (.ins C fs2 xs2) ∧ fs2.length < 1000 ∧ D.nx ρ (put S2 a (.ins C (fputN f fs2) (fputX f (.int (g i j)) fs2 xs2)))) (atR X ρ)) (atR X ρ)
/-! ### dict displays -/
def uPairs : List (UE × UE) → Rho → Sto → (List (Tr × Tr) → Sto → Prop) → QX → Prop
  | [], _, S, Q, _ => Q [] S
  | (a, b) :: r, ρ, S, Q, X => a ρ S (fun x S1 => b ρ S1 (fun y S2 => uPairs r ρ S2 (fun ps S3 => Q ((x, y) :: ps) S3) X) X) X
def keysOf : List (Tr × Tr) → Option (List Key)
  | [] => some []
  | (k, _) :: r => match keyT k, keysOf r with
    | some k, some ks => some (k :: ks)
    | _, _ => none
inductive MonoPs : List (UE × UE) → Prop
  | nil : MonoPs []
  | cons {a b : UE} {r : List (UE × UE)} (ha : MonoE a) (hb : MonoE b) (hr : MonoPs r) : MonoPs ((a, b) :: r)
theorem mono_pairs : ∀ {trs : List (UE × UE)}, MonoPs trs → ∀ ρ S (Q Q' : List (Tr × Tr) → Sto → Prop) X X', (∀ y S, Q y S → Q' y S) → XLe X X' → uPairs trs ρ S Q X → uPairs trs ρ S Q' X'
  | _, .nil, ρ, S, Q, Q', X, X', hQ, hX, h => hQ _ _ h
  | _, .cons ha hb hr, ρ, S, Q, Q', X, X', hQ, hX, h => ha _ _ _ _ _ _ (fun x S1 q => hb _ _ _ _ _ _ (fun y S2 q => mono_pairs hr _ _ _ _ _ _ (fun ps S3 q => hQ _ _ q) hX q) hX q) hX h
structure TPPs (X : Cx) (W : WX) (pos : Pos) (keys : List (Option Expr)) (values : List Expr) (trs : List (UE × UE)) : Prop where
  pe : PPs X pos keys values (trs.map fun ab => (lE X.K W ab.1, lE X.K W ab.2))
  mono : MonoPs trs
theorem pp_nil {pos : Pos} : TPPs X W pos [] [] [] := ⟨pps_nil, .nil⟩
def RepP (K : PySem.W.Frag) (I : Hp) : List (Tr × Tr) → List (V × V) → Prop
  | [], vs => vs = []
  | (a, b) :: r, vs => ∃ v w ws, vs = (v, w) :: ws ∧ Rep K I a v ∧ Rep K I b w ∧ RepP K I r ws
theorem pairs_run {L : Lk} {F : Hp} {σ : L2.St} {ρ : Rho} : ∀ {trs : List (UE × UE)}, MonoPs trs → ∀ {H I : Hp} {S : Sto} {Q : List (Tr × Tr) → Sto → Prop} {X0 : QX} {R : List (V × V) → Hp → Prop}, Hd K L F H S I → Slots K I σ ρ → uPairs trs ρ S Q X0 → XLe X0 (dnX K L F I W σ) →
    (∀ ps S' vs H' I', Q ps S' → Hd K L F H' S' I' → Same I I' → RepP K I' ps vs → R vs H') → tPairs (trs.map fun ab => (lE K W ab.1, lE K W ab.2)) σ H R
  | _, .nil, H, I, S, Q, X0, R, hd, sl, h, hx, k => k [] S [] H I h hd (Same.refl _) rfl
  | _, .cons ha hb hr, H, I, S, Q, X0, R, hd, sl, h, hx, k => by
    refine lE_then ha hd sl h hx fun x S1 v H1 I1 q hd1 s1 sl1 rx => lE_then hb hd1 sl1 q (fun c f x S z => dnX_up s1 _ _ _ _ (hx _ _ _ _ z)) fun y S2 w H2 I2 q2 hd2 s2 sl2 ry => ?_
    refine pairs_run hr hd2 sl2 q2 (fun c f x S z => dnX_up (s1.trans s2) _ _ _ _ (hx _ _ _ _ z)) fun ps S' vs H' I' q' hd' s' r' => ?_
    exact k _ S' _ H' I' q' hd' ((s1.trans s2).trans s') ⟨v, w, vs, rfl, rx.mono (s2.trans s'), ry.mono s', r'⟩
theorem keysOf_rep {I : Hp} : ∀ {ps : List (Tr × Tr)} {vs : List (V × V)} {ks : List Key}, RepP K I ps vs → keysOf ps = some ks → ∃ ws, vs = (ks.zip ws).map (fun kv => (kV kv.1, kv.2)) ∧ ks.length = (ps.map (·.2)).length ∧ RepL K I (ps.map (·.2)) ws
  | [], vs, ks, r, e => by cases r; cases e; exact ⟨[], rfl, rfl, rfl⟩
  | (a, b) :: ps, vs, ks, r, e => by
    obtain ⟨v, w, us, rfl, ra, rb, rr⟩ := r
    unfold keysOf at e
    split at e
    · rename_i k ks' e1 e2
      cases e
      obtain ⟨ws, h1, h2, h3⟩ := keysOf_rep rr e2
      have hk : v = kV k := by
        cases a with
        | int n => cases e1; exact ra
        | str n => cases e1; exact ra
        | _ => cases e1
      subst hk
      exact ⟨w :: ws, by simp [h1], by simp [h2], .cons rb h3⟩
    · cases e
theorem merge_nodup {kvs more : List (Key × V)} : ((kvs ++ more).map (·.1)).Nodup → mergeK kvs more = kvs ++ more := by
  induction more generalizing kvs with
  | nil => intro _; simp [mergeK]
  | cons p r ih =>
    intro h
    obtain ⟨k, v⟩ := p
    have hn : (kvs.any fun kv => decide (kv.1 = k)) = false := by
      rw [Bool.eq_false_iff]
      intro z
      obtain ⟨q, hq, e⟩ := List.any_eq_true.mp z
      have e := of_decide_eq_true e
      rw [List.map_append, List.nodup_append] at h
      exact h.2.2 q.1 (List.mem_map.mpr ⟨q, hq, rfl⟩) k (by simp) e
    have e1 : putK kvs k v = kvs ++ [(k, v)] := by unfold putK; rw [if_neg (by rw [hn]; exact Bool.false_ne_true)]
    show mergeK (putK kvs k v) r = _
    rw [e1, ih (by simpa using h)]
    simp
/-- a display that will change -/
def uDisp (trs : List (UE × UE)) : UE := fun ρ S Q X => uPairs trs ρ S (fun ps S2 => ∃ ks, keysOf ps = some ks ∧ ks.Nodup ∧ ks.length ≤ 15 ∧ ∀ p, S2 p = none → Q (.ref p) (put S2 p (.dic ks (ps.map (·.2))))) X
theorem e_disp {pos : Pos} {keys : List (Option Expr)} {values : List Expr} {trs : List (UE × UE)} (h : TPPs X W pos keys values trs) (hb : PPs X pos keys values (trs.map fun ab => (lE X.K W ab.1, lE X.K W ab.2)) → PE X (.Dict keys values pos) (tDisp (trs.map fun ab => (lE X.K W ab.1, lE X.K W ab.2)))) : TPE X W (.Dict keys values pos) (uDisp trs) :=
  ⟨wkE (hb h.pe) fun σ H R ⟨L, F, S, I, ρ, hd, sl, q⟩ p np => by
    refine pairs_run h.mono (hd.frame np) sl q (fun c f x S z d H' I' hd' s' ⟨vs, z1, z2, z3, z4, z5, z6⟩ => z d H' I' (hd'.lessF (upd_sub (hd.freeF np))) s' ⟨vs, z1, z2, z3, z4, z5, (upd_sub (hd.freeF np)).free z6⟩) fun ps S' vs H' I' ⟨ks, ek, nd, hl, q'⟩ hd' s' r' => ?_
    obtain ⟨ws, e1, e2, e3⟩ := keysOf_rep r' ek
    have hp := (hd'.fra p _ upd_same)
    have nS : S' p = none := by
      cases z : S' p with
      | none => rfl
      | some c => have := (hd'.cel p c z).2.1; rw [upd_same] at this; cases this
    have ew : ws.length = ks.length := by rw [e3.len, e2]
    have em : mergeK [] (ks.zip ws) = ks.zip ws := by
      rw [merge_nodup (by rw [List.nil_append, List.map_fst_zip (by omega)]; exact nd), List.nil_append]
    refine ⟨hp.1, ks.zip ws, e1, by rw [List.length_zip]; omega, ?_⟩
    rw [em]
    have hd2 : Hd X.K L F (upd H' p (.dK (ks.zip ws))) (put S' p (.dic ks (ps.map (·.2)))) I' := by
      have h0 := (hd'.refr (o := .dK (ks.zip ws)))
      refine ⟨h0.sub, h0.lck, fun a c z => ?_, fun b o z => ?_⟩
      · by_cases ha : a = p
        · subst ha
          rw [put_same] at z
          cases z
          exact ⟨hp.2, hd.freeF np, _, upd_same, ws, rfl, e2, e3⟩
        · rw [put_ne ha] at z
          obtain ⟨y1, y2, y3⟩ := h0.cel a c z
          exact ⟨y1, by rw [upd_ne ha] at y2; exact y2, y3⟩
      · have nb : b ≠ p := fun y => by subst y; rw [hd.freeF np] at z; cases z
        exact h0.fra b o (by rw [upd_ne nb]; exact z)
    exact q' p nS _ _ I' hd2 s' rfl, fun ρ S Q Q' X X' hQ hX h' => mono_pairs h.mono _ _ _ _ _ _ (fun ps S2 ⟨ks, a, b, c, q⟩ => ⟨ks, a, b, c, fun p np => hQ _ _ (q p np)⟩) hX h'⟩
theorem pp_cons {pos : Pos} {ke ve : Expr} {ks : List (Option Expr)} {vs : List Expr} {a b : UE} {r : List (UE × UE)} (ha : TPE X W ke a) (hb : TPE X W ve b) (hr : TPPs X W pos ks vs r)
    (hp : PE X ke (lE X.K W a) → PE X ve (lE X.K W b) → PPs X pos ks vs (r.map fun ab => (lE X.K W ab.1, lE X.K W ab.2)) → PPs X pos (some ke :: ks) (ve :: vs) (((a, b) :: r).map fun ab => (lE X.K W ab.1, lE X.K W ab.2))) : TPPs X W pos (some ke :: ks) (ve :: vs) ((a, b) :: r) := ⟨hp ha.pe hb.pe hr.pe, .cons ha.mono hb.mono hr.mono⟩
/-! ### lists of truths -/
def blsOf : List Tr → Option (List Bool)
  | [] => some []
  | .bl b :: r => (blsOf r).map (b :: ·)
  | _ => none
def gAll (f : List Bool → Bool) (xs : List Tr) (z : Tr) : Prop := match xs with
  | [.lst ys] => ∃ bs, blsOf ys = some bs ∧ z = .bl (f bs)
  | _ => False
/-! ### levels -/
theorem CalleeT.lift {P : Program} {w : World} {mg : Str → Option Value} {base : Heap} {j k : Nat} {x : Str} {ps : List Str} {t : TSp} (C : CalleeT P w K mg base j x ps t) (h : j ≤ k) : CalleeT P w K mg base k x ps t := by
  obtain ⟨⟨f, fd, g, kp, b, F, lk⟩, m⟩ := C
  exact ⟨⟨f, fd, g, kp, b, F.mono h, lk⟩, m⟩
theorem MthT.lift {P : Program} {w : World} {mg : Str → Option Value} {base : Heap} {j k : Nat} {C : Addr} {x : Str} {t : TSp} (M : MthT P w K mg base j C x t) (h : j ≤ k) : MthT P w K mg base k C x t := by
  obtain ⟨⟨f, fd, ps, a, b, F⟩, c, m⟩ := M
  exact ⟨⟨f, fd, ps, a, b, F.mono h⟩, c, m⟩
theorem NewT.lift {P : Program} {w : World} {mg : Str → Option Value} {base : Heap} {j k : Nat} {C : Addr} {x : Str} {t : TSp} (N : NewT P w K mg base j x C t) (h : j ≤ k) : NewT P w K mg base k x C t := by
  obtain ⟨⟨f, fd, ps, dts, tI, ds, dvs, a, b, c, d, e, F, r⟩, m⟩ := N
  exact ⟨⟨f, fd, ps, dts, tI, ds, dvs, a, b, c, d, e, F.mono h, r⟩, m⟩
end
end KQ
namespace KQ
open PySem PySem.Spec PyProof.Rows L2 TL KB
/-! ### the rules that speak of the frame's part, with that part named -/
section
variable {X : Cx} {W : WX} {K : PySem.W.Frag} {e o : Expr} {te to : UE} {f : Str} {pos p' : Pos}
/-- isinstance(x, c), c a class of the program -/
def uIsi1 (K : PySem.W.Frag) (u : Value) (te : UE) : UE := fun ρ S Q X => te ρ S (fun x S1 => ∃ t b, tyT K (vw S1 x) t ∧ PySem.W.kitOne K t u = some b ∧ Q (.bl b) S1) X
end
/-! ### operators of a class's own -/
/-- x op y, both of one class -/
def uOBin (ms : Addr → TSp → Prop) (ta tb : UE) : UE := fun ρ S Q X => ta ρ S (fun x S1 => tb ρ S1 (fun y S2 => ∃ C fs xs gs zs t, vw S2 x = .ins C fs xs ∧ vw S2 y = .ins C gs zs ∧ ms C t ∧ t [x, y] S2 Q X) X) X
/-- x[y], x of a class with a __getitem__ -/
def uOIx (ms : Addr → TSp → Prop) (ta tb : UE) : UE := fun ρ S Q X => ta ρ S (fun x S1 => tb ρ S1 (fun y S2 => ∃ C fs xs t, vw S2 x = .ins C fs xs ∧ ms C t ∧ t [x, y] S2 Q X) X) X
section
variable {X : Cx} {W : WX} {k : Nat} {ms : Addr → TSp → Prop} {a b : Expr} {ta tb : UE} {pos : Pos}
end
section
variable {X : Cx} {W : WX} {k : Nat} {ms : Addr → TSp → Prop} {a b : Expr} {ta tb : UE} {pos : Pos}
end
/-- x in y, x not in y (n), y of a class with a __contains__ that answers True or False -/
def uOIn (n : Bool) (ms : Addr → TSp → Prop) (ta tb : UE) : UE := fun ρ S Q X => ta ρ S (fun x S1 => tb ρ S1 (fun y S2 => ∃ C fs xs t, vw S2 y = .ins C fs xs ∧ ms C t ∧ t [y, x] S2 (fun z S3 => ∃ b, z = .bl b ∧ Q (.bl (n ^^ b)) S3) X) X) X
section
variable {X : Cx} {W : WX} {k : Nat} {ms : Addr → TSp → Prop} {a b : Expr} {ta tb : UE} {pos : Pos}
end
/-- len(x), x of a class with a __len__ -/
def uOLen (ms : Addr → TSp → Prop) (ta : UE) : UE := fun ρ S Q X => ta ρ S (fun x S1 => ∃ C fs xs t, vw S1 x = .ins C fs xs ∧ ms C t ∧ t [x] S1 (fun z S2 => ∃ n : Int, z = .int n ∧ 0 ≤ n ∧ n < 9223372036854775808 ∧ Q (.int n) S2) X) X
end KQ
namespace KQ
open PySem PySem.Spec PyProof.Rows L2 TL KB
/-! ### try with clauses that have a name or none -/
abbrev Sut := Addr → Value → Option Addr → TS
/-- the ends of a suite whose name is gone behind it -/
def clr (i : Nat) (D : L2.Ends) : L2.Ends := ⟨fun τ G => D.nx (τ.set i none) G, D.rt, fun τ G => D.bk (τ.set i none) G, fun τ G => D.ct (τ.set i none) G⟩
def wMix (K : PySem.W.Frag) (Wo : WX) (D : L2.Ends) : List (Value × Option Nat × Sut) → WX
  | [] => Wo
  | (c, none, u) :: r => fun k d τ G => ∃ y, PySem.W.exmOne K k c = some y ∧ (y = true → ∀ e, G e = none → u e k d D τ G) ∧ (y = false → wMix K Wo D r k d τ G)
  | (c, some i, u) :: r => fun k d τ G => ∃ y, PySem.W.exmOne K k c = some y ∧ (y = true → ∀ e, G e = none → u e k d (clr i D) (τ.set i (some (.ref e))) G) ∧ (y = false → wMix K Wo D r k d τ G)
inductive HdM (X : Cx) : List ExceptHandler → List (Value × Option Nat × Sut) → Prop
  | nil : HdM X [] []
  | only {x : Str} {c : Value} {u : Sut} {b : Stmt} {bs : List Stmt} {p1 p2 : Pos} {hs : List ExceptHandler} {l : List (Value × Option Nat × Sut)} (nm : Names X x c)
      (su : ∀ (e : Addr) (o : Obj) (k : Value) (d : Option Addr) (pn : List (Addr × Obj)), L2N.Zn k d o → (∃ fs, o.data = .fields fs) → PSs (X.suite e ((e, o) :: pn)) (b :: bs) (u e k d)) (r : HdM X hs l) :
      HdM X (.ExceptHandler (some (.Name x p1)) none (b :: bs) p2 :: hs) ((c, none, u) :: l)
  | named {x n : Str} {i : Nat} {c : Value} {u : Sut} {b : Stmt} {bs : List Stmt} {p1 p2 : Pos} {hs : List ExceptHandler} {l : List (Value × Option Nat × Sut)} (nd : X.N.Nodup) (at_ : X.N[i]? = some n) (lc : X.env.kindOf n = some .local) (nm : Names X x c)
      (su : ∀ (e : Addr) (o : Obj) (k : Value) (d : Option Addr) (pn : List (Addr × Obj)), L2N.Zn k d o → (∃ fs, o.data = .fields fs) → PSs (X.suite e ((e, o) :: pn)) (b :: bs) (u e k d)) (r : HdM X hs l) :
      HdM X (.ExceptHandler (some (.Name x p1)) (some n) (b :: bs) p2 :: hs) ((c, some i, u) :: l)
theorem ps_try_mix {X : Cx} {body : List Stmt} {g : ExceptHandler} {gs : List ExceptHandler} {l : List (Value × Option Nat × Sut)} {pos : Pos} {tb : WX → TS} {Wo : WX} (st : X.stack = X.env :: X.outer) (fr : X.env.frame = some X.env.locals) (tk : L2N.Takes X Wo)
    (bd : ∀ (W : WX) (pn : List (Addr × Obj)) (xe : Value → Shared → Prop), L2N.Takes (X.tr pn xe) W → PassesOwn (model X.prog X.w) X.A X.env xe → PSs (X.tr pn xe) body (tb W))
    (hd : HdM X (g :: gs) l) : PS X (.Try body (g :: gs) [] [] pos) (fun D σ H => tb (wMix X.K Wo D l) D σ H) := by
  refine ⟨fun pins s σ H D I h => ?_⟩
  have F0 : X.A.frames = some (X.env :: X.outer) := by rw [I.ok.frames, st]
  refine wpAny_Try_except (wpAny_mono ((bd (wMix X.K Wo D l) (X.pn ++ pins) (fun v t1 => wpAny (model X.prog X.w) X.A (noteFrame v X.env) (fun _ t2 => wpAny (model X.prog X.w) X.A (setFlight v none) (fun _ t3 =>
    wpAny (model X.prog X.w) X.A (handleBy v X.env (g :: gs)) (SP X pins D) X.xe t3) X.xe t2) X.xe t1) (fun v t xx => ?_) PassesOwn.looking).run [] s σ H D (I.toTry _) h) (fun f t z => ?_) (fun _ _ z => z))
  · obtain ⟨e, B, t0, pins0, τ, G, k, d, rfl, R0, nb, up, sky, ne, os, ag, w⟩ := xx
    have R : Inv X pins τ G t0 := R0.ofTry I.ok
    rw [st] at sky
    show wpAny (model X.prog X.w) X.A (noteFrame (.ref e) X.env) _ _ _
    refine L2N.Sky.land L2N.Zn.steady F0 fr sky fun h1 fl up1 => ?_
    have R1 : Inv X pins τ G { t with heap := h1 } := R.landed nb fl.1 (up.trans up1) os ag
    obtain ⟨o1, fs1, g1, z1, d1⟩ := fl.there
    have off : e ∉ frs (X.env :: X.outer) := fun hm => by
      obtain ⟨_, o2, e2, nf⟩ := fl.2.2.1.mem hm
      rw [g1] at e2
      cases e2
      exact nf _ d1
    have offL : e ≠ X.env.locals := fun z => off (List.mem_filterMap.mpr ⟨X.env, List.mem_cons_self, by rw [fr, z]⟩)
    have offF : e ∉ X.fs := fun hm => by
      obtain ⟨v, hv, q⟩ := List.mem_filterMap.mp hm
      exact off (List.mem_filterMap.mpr ⟨v, List.mem_cons_of_mem _ hv, q⟩)
    have U1 := R1.suite g1 d1 ne offL offF
    have ty : PySem.W.Looks (model X.prog X.w) h1 (typeOf (.ref e)) k := fun A Q E t5 kk q => wpAny_typeOf_ref (kk _ _ g1) (by rw [z1.1]; exact q)
    have tst : ∀ {x : Str} {c : Value} {p1 : Pos} {Q : Value → Shared → Prop} {E : Value → Shared → Prop}, Names X x c → Q c { t with heap := h1 } → wpAny (model X.prog X.w) (X.A.mark (some (.ref e))) (eval (.Name x p1) X.env) Q E { t with heap := h1 } := fun {x c p1 Q E} nm q => by
      obtain ⟨y1, y2, y3 | ⟨y3, y4, y5⟩⟩ := nm
      · exact ld_glob (X := X.suite e ((e, o1) :: (X.pn ++ pins))) U1 y1 y3 q y2
      · exact ld_blt (X := X.suite e ((e, o1) :: (X.pn ++ pins))) U1 y1 y3 y4 q y5 y2
    have go : ∀ {gs2 : List ExceptHandler} {l2 : List (Value × Option Nat × Sut)}, HdM X gs2 l2 → wMix X.K Wo D l2 k d τ G → wpAny (model X.prog X.w) X.A (handleBy (.ref e) X.env gs2) (SP X pins D) X.xe { t with heap := h1 } := by
      intro gs2 l2 hk
      induction hk with
      | nil =>
        intro w2
        refine wpAny_handleBy_nil ?_
        obtain ⟨m1, m2, m3, o3, fs3, T, oT, tsT, g3, z3, d3, h3, r3⟩ := id fl
        unfold PySem.passOn
        refine wpAny_bind (wpAny_field g3 d3 h3 ?_)
        rw [if_neg (show ¬ ((Value.ref T == Value.none) = true) from by simp)]
        have out : wpAny (model X.prog X.w) X.A (setFlight (.ref e) X.env.frame) (fun _ t4 => wpAny (model X.prog X.w) X.A (throw (.ref e) : Sem Flow) (SP X pins D) X.xe t4) X.xe { t with heap := h1 } := by
          rw [fr]
          exact HandSPX.setFlight_upZ fl fun h2 hh2 up2 => wpAny_throw (tk _ _ ⟨e, B, t0, pins, τ, G, k, d, rfl, R, nb, (up.trans up1).trans up2, .inr (.inr (by rw [st]; exact hh2)), ne, os, ag, w2⟩)
        first
          | exact wpAny_bind (wpAny_pure (wpAny_bind out))
          | exact wpAny_bind out
      | @only x c u b bs p1 p2 hs2 l2 nm su r ih =>
        rintro ⟨y, hy, y1, y0⟩
        refine wpAny_handleBy_cons (codeAny_handlers_test ?_) (fun q => by cases q)
        refine tst nm ((PySem.W.exm_one (M := model X.prog X.w) R1.kIn ty hy).here ?_)
        cases y with
        | false => exact ih (y0 rfl)
        | true =>
          refine codeAny_handlers_suite (HandSPX.lands_againZ fl fun h2 fl2 up2 => ?_)
          have R2 : Inv X pins τ G { t with heap := h2 } := R.landed nb fl2.1 ((up.trans up1).trans up2) os ag
          obtain ⟨o2, fs2, g2, z2, d2⟩ := fl2.there
          refine wpAny_mono ((su e o2 k d (X.pn ++ pins) z2 ⟨_, d2⟩).run [] _ _ G _ (R2.suite g2 d2 ne offL offF) (y1 rfl e ne)) (fun f t6 q => ?_) (fun _ _ z => False.elim z)
          cases f with
          | ret v => exact let ⟨v6, τ6, G6, U6, r6, q6⟩ := q; ⟨v6, τ6, G6, U6.unsuite I.ok, r6, q6⟩
          | next => exact let ⟨τ6, G6, U6, q6⟩ := q; ⟨τ6, G6, U6.unsuite I.ok, q6⟩
          | brk => exact let ⟨τ6, G6, U6, q6⟩ := q; ⟨τ6, G6, U6.unsuite I.ok, q6⟩
          | cont => exact let ⟨τ6, G6, U6, q6⟩ := q; ⟨τ6, G6, U6.unsuite I.ok, q6⟩
      | @named x n i c u b bs p1 p2 hs2 l2 nd at_ lc nm su r ih =>
        rintro ⟨y, hy, y1, y0⟩
        refine wpAny_handleBy_cons (codeAny_handlers_test ?_) (fun q => by cases q)
        refine tst nm ((PySem.W.exm_one (M := model X.prog X.w) R1.kIn ty hy).here ?_)
        cases y with
        | false => exact ih (y0 rfl)
        | true =>
          refine codeAny_handlers_suite_as (HandSPX.lands_againZ fl fun h2 fl2 up2 => ?_)
          have R2 : Inv X pins τ G { t with heap := h2 } := R.landed nb fl2.1 ((up.trans up1).trans up2) os ag
          obtain ⟨o2, fs2, g2, z2, d2⟩ := fl2.there
          refine store_ok (X := X.suite e ((e, o2) :: (X.pn ++ pins))) (v := .ref e) (R2.suite g2 d2 ne offL offF) nd at_ (.inl lc) rfl (fun t5 U5 => ?_) (.inr lc)
          refine wpAny_mono ((su e o2 k d (X.pn ++ pins) z2 ⟨_, d2⟩).run [] t5 _ G _ U5 (y1 rfl e ne)) (fun f t6 q => ?_) (fun _ _ z => False.elim z)
          have nd6 : ∀ {τ6 : L2.St} {G6 : Hp} {P : Shared → Prop}, Inv (X.suite e ((e, o2) :: (X.pn ++ pins))) [] τ6 G6 t6 → (∀ t7, Inv X pins (τ6.set i none) G6 t7 → P t7) → wpAny (model X.prog X.w) X.A (do bindName X.env n .none; unbindBehindTheSuite X.env n p2) (fun _ t7 => P t7) X.xe t6 :=
            fun {τ6 G6 P} U6 hP => gone_ok (U6.unsuite I.ok) nd at_ lc hP
          cases f with
          | ret v => exact let ⟨v6, τ6, G6, U6, r6, q6⟩ := q; nd6 U6 fun t7 V7 => ⟨_, _, _, V7, r6, q6⟩
          | next => exact let ⟨τ6, G6, U6, q6⟩ := q; nd6 U6 fun t7 V7 => ⟨_, _, V7, q6⟩
          | brk => exact let ⟨τ6, G6, U6, q6⟩ := q; nd6 U6 fun t7 V7 => ⟨_, _, V7, q6⟩
          | cont => exact let ⟨τ6, G6, U6, q6⟩ := q; nd6 U6 fun t7 V7 => ⟨_, _, V7, q6⟩
    exact go hd w
  · cases f with
    | ret v => exact let ⟨v6, τ6, G6, V6, r6, q6⟩ := z; ⟨v6, τ6, G6, V6.ofTry I.ok, r6, q6⟩
    | next => exact let ⟨τ6, G6, V6, q6⟩ := z; wpAny_execs_nil ⟨τ6, G6, V6.ofTry I.ok, q6⟩
    | brk => exact let ⟨τ6, G6, V6, q6⟩ := z; ⟨τ6, G6, V6.ofTry I.ok, q6⟩
    | cont => exact let ⟨τ6, G6, V6, q6⟩ := z; ⟨τ6, G6, V6.ofTry I.ok, q6⟩
/-! ### the same over trees -/
def XS0 : XS := fun _ _ _ _ _ => False
/-- what a suite reads, by the exception, its dict, its class -/
abbrev SuU := Addr → Addr → Value → US
def clrU (i : Nat) (D : UEnds) : UEnds := { nx := fun ρ S => D.nx (ρ.set i none) S, rt := D.rt, bk := fun ρ S => D.bk (ρ.set i none) S, ct := fun ρ S => D.ct (ρ.set i none) S }
/-- what the clauses wish of an exception -/
def hX (K : PySem.W.Frag) (D : UEnds) (X : XS) : List (Value × Option Nat × SuU) → XS
  | [] => X
  | (c, none, u) :: r => fun k fs xs ρ S => ∃ y, PySem.W.exmOne K k c = some y ∧ (y = true → ∀ e d, u e d k D XS0 ρ S) ∧ (y = false → hX K D X r k fs xs ρ S)
  | (c, some i, u) :: r => fun k fs xs ρ S => ∃ y, PySem.W.exmOne K k c = some y ∧ (y = true → ∀ e d, u e d k (clrU i D) XS0 (ρ.set i (some (.exc e d k fs xs))) S) ∧ (y = false → hX K D X r k fs xs ρ S)
def uTry (K : PySem.W.Frag) (tb : US) (l : List (Value × Option Nat × SuU)) : US := fun D X ρ S => tb D (hX K D X l) ρ S
inductive HdT (X : Cx) : List ExceptHandler → List (Value × Option Nat × SuU) → Prop
  | nil : HdT X [] []
  | only {x : Str} {c : Value} {u : SuU} {b : Stmt} {bs : List Stmt} {p1 p2 : Pos} {hs : List ExceptHandler} {l : List (Value × Option Nat × SuU)} (nm : Names X x c)
      (su : ∀ (e d : Addr) (o : Obj) (k : Value) (pn : List (Addr × Obj)), L2N.Zn k (some d) o → (∃ fs, o.data = .fields fs) → TPSs (X.suite e ((e, o) :: pn)) W0 (b :: bs) (u e d k)) (r : HdT X hs l) :
      HdT X (.ExceptHandler (some (.Name x p1)) none (b :: bs) p2 :: hs) ((c, none, u) :: l)
  | named {x n : Str} {i : Nat} {c : Value} {u : SuU} {b : Stmt} {bs : List Stmt} {p1 p2 : Pos} {hs : List ExceptHandler} {l : List (Value × Option Nat × SuU)} (nd : X.N.Nodup) (at_ : X.N[i]? = some n) (lc : X.env.kindOf n = some .local) (nm : Names X x c)
      (su : ∀ (e d : Addr) (o : Obj) (k : Value) (pn : List (Addr × Obj)), L2N.Zn k (some d) o → (∃ fs, o.data = .fields fs) → TPSs (X.suite e ((e, o) :: pn)) W0 (b :: bs) (u e d k)) (r : HdT X hs l) :
      HdT X (.ExceptHandler (some (.Name x p1)) (some n) (b :: bs) p2 :: hs) ((c, some i, u) :: l)
def lowS (K : PySem.W.Frag) (u : SuU) : Sut := fun e k d D σ H => ∃ dd, d = some dd ∧ lS K W0 (u e dd k) D σ H
def liftH (K : PySem.W.Frag) : List (Value × Option Nat × SuU) → List (Value × Option Nat × Sut)
  | [] => []
  | (c, i, u) :: r => (c, i, lowS K u) :: liftH K r
theorem lowS_ok {X : Cx} {u : SuU} {sts : List Stmt} {e : Addr} {o : Obj} {k : Value} {d : Option Addr} {pn : List (Addr × Obj)} (su : ∀ d, L2N.Zn k (some d) o → TPSs (X.suite e ((e, o) :: pn)) W0 sts (u e d k)) (z : L2N.Zn k d o) : PSs (X.suite e ((e, o) :: pn)) sts (lowS X.K u e k d) :=
  ⟨fun pins s σ H D I ⟨dd, ed, q⟩ => by subst ed; exact (su dd z).pe.run pins s σ H D I q⟩
theorem HdT.low {X : Cx} {hs : List ExceptHandler} {l : List (Value × Option Nat × SuU)} (h : HdT X hs l) : HdM X hs (liftH X.K l) := by
  induction h with
  | nil => exact .nil
  | only nm su r ih => exact .only nm (fun e o k d pn z f => lowS_ok (fun dd z => su e dd o k pn z f) z) ih
  | named nd at_ lc nm su r ih => exact .named nd at_ lc nm (fun e o k d pn z f => lowS_ok (fun dd z => su e dd o k pn z f) z) ih
inductive MonoH : List (Value × Option Nat × SuU) → Prop
  | nil : MonoH []
  | cons {c : Value} {i : Option Nat} {u : SuU} {r : List (Value × Option Nat × SuU)} (m : ∀ e d k, MonoS (u e d k)) (h : MonoH r) : MonoH ((c, i, u) :: r)
theorem HdT.mono {X : Cx} {hs : List ExceptHandler} {l : List (Value × Option Nat × SuU)} (h : HdT X hs l) : MonoH l := by
  induction h with
  | nil => exact .nil
  | only nm su r ih => exact .cons (fun e d k => (su e d ⟨k, some d, .fields #[.none, .none, .none], #[]⟩ k [] ⟨rfl, rfl, fun vs e => by cases e; rfl⟩ ⟨_, rfl⟩).mono) ih
  | named nd at_ lc nm su r ih => exact .cons (fun e d k => (su e d ⟨k, some d, .fields #[.none, .none, .none], #[]⟩ k [] ⟨rfl, rfl, fun vs e => by cases e; rfl⟩ ⟨_, rfl⟩).mono) ih
theorem clrU_le {i : Nat} {D D' : UEnds} (h : ULe D D') : ULe (clrU i D) (clrU i D') := ⟨fun _ _ q => h.1 _ _ q, h.2.1, fun _ _ q => h.2.2.1 _ _ q, fun _ _ q => h.2.2.2 _ _ q⟩
theorem hX_mono {K : PySem.W.Frag} {D D' : UEnds} {X X' : XS} (hD : ULe D D') (hXX : XSLe X X') {l : List (Value × Option Nat × SuU)} (m : MonoH l) : XSLe (hX K D X l) (hX K D' X' l) := by
  induction m with
  | nil => exact hXX
  | @cons c i u r m _ ih =>
    intro k fs xs ρ S h
    cases i with
    | none =>
      obtain ⟨y, h1, h2, h3⟩ := h
      exact ⟨y, h1, fun z e d => m _ _ _ _ _ _ _ _ _ hD (fun _ _ _ _ _ q => q) (h2 z e d), fun z => ih _ _ _ _ _ (h3 z)⟩
    | some i =>
      obtain ⟨y, h1, h2, h3⟩ := h
      exact ⟨y, h1, fun z e d => m _ _ _ _ _ _ _ _ _ (clrU_le hD) (fun _ _ _ _ _ q => q) (h2 z e d), fun z => ih _ _ _ _ _ (h3 z)⟩
theorem hX_low {K : PySem.W.Frag} {L : Lk} {F I : Hp} {Wo : WX} {D : L2.Ends} {l : List (Value × Option Nat × SuU)} (m : MonoH l) : XSLe (hX K (dnD K L F I D) (dnXS K L F I Wo) l) (dnXS K L F I (wMix K Wo D (liftH K l))) := by
  induction m with
  | nil => exact fun _ _ _ _ _ h => h
  | @cons c i u r m _ ih =>
    intro k fs xs ρ S h d σ' H' I' hd s sl xd
    cases i with
    | none =>
      obtain ⟨y, h1, h2, h3⟩ := h
      exact ⟨y, h1, fun z e ne => ⟨d, rfl, L, F, S, I', ρ, hd, sl, m _ _ _ _ _ _ _ _ _ (dnD_up s) (fun _ _ _ _ _ q => q.elim) (h2 z e d)⟩, fun z => ih _ _ _ _ _ (h3 z) d σ' H' I' hd s sl xd⟩
    | some i =>
      obtain ⟨y, h1, h2, h3⟩ := h
      refine ⟨y, h1, fun z e ne => ?_, fun z => ih _ _ _ _ _ (h3 z) d σ' H' I' hd s sl xd⟩
      obtain ⟨vs, g1, g2, g3, g4, g5, g6⟩ := xd
      have hd2 := hd.adopt g1 g4 g5 g6
      have s2 : Same I' (upd I' d (.xd (fs.zip vs))) := upd_sub g4
      have sl2 : Slots K (upd I' d (.xd (fs.zip vs))) (σ'.set i (some (.ref e))) (ρ.set i (some (.exc e d k fs xs))) := (sl.mono s2).set ⟨rfl, vs, upd_same, g2, RepL.mono s2 _ _ g3⟩
      refine ⟨d, rfl, L, F, S, _, _, hd2, sl2, m _ _ _ _ _ _ _ _ _ ?_ (fun _ _ _ _ _ q => q.elim) (h2 z e d)⟩
      have up := dnD_up (K := K) (L := L) (F := F) (D := D) (s.trans s2)
      exact ⟨fun ρ1 S1 q σ1 H1 I1 hd1 s1 sl1 => up.1 _ _ q _ _ _ hd1 s1 sl1.none, up.2.1, fun ρ1 S1 q σ1 H1 I1 hd1 s1 sl1 => up.2.2.1 _ _ q _ _ _ hd1 s1 sl1.none, fun ρ1 S1 q σ1 H1 I1 hd1 s1 sl1 => up.2.2.2 _ _ q _ _ _ hd1 s1 sl1.none⟩
theorem s_try {X : Cx} {K : PySem.W.Frag} {body : List Stmt} {g : ExceptHandler} {gs : List ExceptHandler} {l : List (Value × Option Nat × SuU)} {pos : Pos} {tb : US} {Wo : WX} (hk : X.K = K) (st : X.stack = X.env :: X.outer) (fr : X.env.frame = some X.env.locals) (tk : L2N.Takes X Wo)
    (bd : ∀ (W : WX) (pn : List (Addr × Obj)) (xe : Value → Shared → Prop), L2N.Takes (X.tr pn xe) W → PassesOwn (model X.prog X.w) X.A X.env xe → TPSs (X.tr pn xe) W body tb)
    (hd : HdT X (g :: gs) l) : TPS X Wo (.Try body (g :: gs) [] [] pos) (uTry K tb l) := by
  subst hk
  have mb : MonoS tb := (bd W0 [] (fun _ _ => False) (fun u s' ⟨_, _, _, _, _, _, _, _, _, _, _, _, _, _, _, _, w⟩ => w.elim) PassesOwn.never).mono
  refine ⟨wkS (ps_try_mix (tb := fun W => lS X.K W tb) st fr tk (fun W pn xe t po => (bd W pn xe t po).pe) hd.low) fun D σ H ⟨L, F, S, I, ρ, hd1, sl, h⟩ => ⟨L, F, S, I, ρ, hd1, sl, mb _ _ _ _ _ _ (ULe.refl _) (hX_low hd.mono) h⟩, fun D D' X X' ρ S hD hXX h => mb _ _ _ _ _ _ hD (hX_mono hD hXX hd.mono) h⟩
/-! ### e.f and isinstance(e, C) in a suite -/
/-- e.f, e what the suite holds -/
def uXf (K : PySem.W.Frag) (e d : Addr) (k : Value) (f : Str) (te : UE) : UE := fun ρ S Q X => te ρ S (fun x S1 => ∃ C fs xs y, x = .exc e d k fs xs ∧ k = .ref C ∧ ExcC K C ∧ PySem.W.findIn K (.ref C) f = some none ∧ fget f fs xs = some y ∧ Q y S1) X
def uIsE (K : PySem.W.Frag) (e d : Addr) (k u : Value) (te : UE) : UE := fun ρ S Q X => te ρ S (fun x S1 => ∃ C fs xs b, x = .exc e d k fs xs ∧ k = .ref C ∧ ExcC K C ∧ PySem.W.kitOne K (.ref C) u = some b ∧ Q (.bl b) S1) X
theorem mono_isE {K : PySem.W.Frag} {e d : Addr} {k u : Value} {te : UE} (m : MonoE te) : MonoE (uIsE K e d k u te) := fun ρ S Q Q' X X' hQ hX h => m _ _ _ _ _ _ (fun x S1 ⟨C, fs, xs, y, e1, e2, e3, e4, q⟩ => ⟨C, fs, xs, y, e1, e2, e3, e4, hQ _ _ q⟩) hX h
section
variable {X : Cx} {K : PySem.W.Frag} {e d : Addr} {o : Obj} {k : Value} {pn : List (Addr × Obj)} {a : Expr} {te : UE} {f : Str} {pos : Pos}
end
/-- isinstance(e, c) of what the suite holds, whatever its dict -/
theorem call_isD {X : Cx} {a D dd : Addr} {oe : Obj} {pn : List (Addr × Obj)} (C : ExcC X.K D) (hz : Zc (.ref D) (some dd) oe) (hf : ∃ vs, oe.data = .fields vs) :
    CallR (X.suite a ((a, oe) :: pn)) (.builtin "isinstance") (fun xs H Q => ∃ fs, H dd = some (.xd fs) ∧ rIsE X.K D a xs H Q) := by
  rintro pins s σ H xs us Q I r ⟨fs, hdd, c, cv, b, rfl, hcv, e, q⟩
  obtain _ | ⟨rx, _ | ⟨rt, _ | _⟩⟩ := r
  cases rx
  have ec := hcv _ rt; subst ec
  have hp := (I.pin (a, oe) (List.mem_append.mpr (.inl List.mem_cons_self))).1
  obtain ⟨vs, hv⟩ := hf
  obtain ⟨mA, hns, _⟩ : ObjOk X.prog X.w H s.heap dd (.xd fs) := I.hok dd _ hdd
  obtain ⟨od, ho, _⟩ := lookIn_ns hns
  have J : PySem.W.InstAt s.heap a oe D (some od) := ⟨hp, hz.1, by unfold PySem.W.notCls; rw [hv] <;> rfl, by rw [hz.2]; exact ho⟩
  have hcl : (PySem.W.clsIn X.K D).isSome = true := by obtain ⟨cd, hc, _⟩ := PySem.W.any_some C.hd; rw [hc]; rfl
  exact PySem.W.kia_one (PySem.W.kitx_exc (od := some od) hcl C.hg C.hk C.hs C.ha C.hn C.ht C.hm) I.kIn J e (fun z => nomatch z) fun tk => ⟨.bl b, H, I.kept (t' := tk) fun _ _ z => z, rfl, q⟩
theorem e_isE {X : Cx} {K : PySem.W.Frag} {e d : Addr} {o : Obj} {k u : Value} {pn : List (Addr × Obj)} {a c : Expr} {te : UE} {v1 : V} {p pos : Pos} (z : Zc k (some d) o) (hf : ∃ fs, o.data = .fields fs) (hk : X.K = K) (hg : Gl X "isinstance") (hm : X.mg "isinstance" = none) (he : TPE (X.suite e ((e, o) :: pn)) W0 a te) (hc : PE (X.suite e ((e, o) :: pn)) c (tC v1)) (h1 : ClsV v1 u)
    (s3 : starEach (a :: [c]) X.env = (false, eval a X.env) :: starEach [c] X.env := by rfl) (s4 : starEach [c] X.env = (false, eval c X.env) :: starEach [] X.env := by rfl)
    (hpl : (backTo pos (starEach [c] X.env)).any (·.1) = false := by rfl) : TPE (X.suite e ((e, o) :: pn)) W0 (.Call (.Name "isinstance" p) [a, c] [] pos) (uIsE K e d k u te) := by
  subst hk
  refine ⟨⟨fun pins s σ H Q I h => ?_⟩, mono_isE he.mono⟩
  obtain ⟨L, F, S, I0, ρ, hd, sl, h⟩ := h
  have hL : ∀ {H1 I1 : Hp} {S1 : Sto} {fs : List (Str × V)}, Hd X.K L F H1 S1 I1 → I1 d = some (.xd fs) → H1 d = some (.xd fs) := fun {H1 I1 S1 fs} hd1 g => by
    have q := hd1.sub _ _ g
    cases e : L d with
    | none => rw [e] at q; exact q
    | some od => obtain ⟨kv, z⟩ := hd1.lck d od e; rw [g] at z; cases z
  by_cases hC : ∃ C, k = .ref C ∧ ExcC X.K C
  · obtain ⟨C, rfl, T⟩ := hC
    refine (pe_callB (call_isD T z hf) hg hm boot_isinstance (pa_cons he.pe (pa_cons hc pa_nil s4) s3) (he := s3) (hpl := hpl)).run pins s σ H Q I ?_
    refine lE_then he.mono hd sl h (fun _ _ _ _ q => q) fun x S1 v H1 I1 ⟨C', fs, xs, b, e1, e2, e3, e4, q⟩ hd1 s1 sl1 r => ?_
    cases e2
    subst e1
    obtain ⟨rv, vs, g1, g2, g3⟩ := r
    subst rv
    exact ⟨_, hL hd1 g1, v1, u, b, rfl, fun w rw_ => h1.eq rw_, e4, q _ H1 I1 hd1 s1 rfl⟩
  · have no : lE X.K W0 te σ H (fun _ _ => False) := lE_then he.mono hd sl h (fun _ _ _ _ q => q) fun x S1 v H1 I1 ⟨C', fs, xs, b, e1, e2, e3, e4, q⟩ hd1 s1 sl1 r => hC ⟨C', e2, e3⟩
    refine (pe_callB (X := X.suite e ((e, o) :: pn)) (id := "isinstance") (r := fun _ _ _ => False) (fun _ _ _ _ _ _ _ _ _ z => z.elim) hg hm boot_isinstance (pa_cons he.pe (pa_cons hc pa_nil s4) s3) (he := s3) (hpl := hpl)).run pins s σ H Q I ?_
    exact no
/-! ### raise C(e, ..), C a class of the program -/
/-- what C's own __init__ keeps, C's fields as its parameters stand -/
def spX (C : Addr) (fs : List Str) : Sp := fun vs H Q _ => ∃ (a : Addr) (ws : List V), vs = .ref a :: ws ∧ ws.length = fs.length ∧ H a = some (exo a C none) ∧ ∀ d, H d = none → d ≠ a → Q .non (upd (upd H d (exd d (fs.zip ws))) a (exo a C (some d)))
structure ExcT (P : Program) (w : World) (K : PySem.W.Frag) (mg : Str → Option Value) (base : Heap) (k : Nat) (x : Str) (C : Addr) (fs : List Str) : Prop where
  ex : ∃ (CX : CXT) (f : Addr) (fd : FuncData) (ps : List Str), OexC K C ∧ mg x = some (.ref C) ∧ PySem.W.findIn K (.ref C) "__init__" = some (some (.ref f)) ∧ PySem.W.typeIn K (.ref f) = some (.type "function") ∧ Binds K fd ps [] ∧ FnOk P w K mg base CX k f fd ps (spX C fs) ∧ (∀ X : Cx, Passes CX X (fun _ _ _ => False))
  few : fs.length ≤ 1000
def uRaise (C : Addr) (fs : List Str) (ta : UA) : US := fun D X ρ S => ta ρ S (fun xs S1 => xs.length = fs.length ∧ X (.ref C) fs xs ρ S1) (atR X ρ)
theorem upd_made {H : Hp} {a d : Addr} {o1 o2 u x : HO} (na : H a = none) (nda : d ≠ a) : upd (del (upd (upd (upd H a o1) d u) a o2) a) d x = upd H d x := by
  funext b
  by_cases h : b = d
  · subst h; rw [upd_same, upd_same]
  · rw [upd_ne h, upd_ne h]
    by_cases h2 : b = a
    · subst h2; rw [del_same, na]
    · rw [del_ne h2, upd_ne h2, upd_ne h, upd_ne h2]
/-- C(e, ..) of an own exception class: its context is None -/
theorem pmk_oexN {X : Cx} {e : Expr} {es : List Expr} {ta : TA} {pos p : Pos} {CX : CXT} {x : Str} {C fI : Addr} {k : Nat} {fd : FuncData} {ps : List Str} {sp : Sp} {ds : List Value} {dvs : List V} (T : OexC X.K C) (iC : PySem.W.findIn X.K (.ref C) "__init__" = some (some (.ref fI))) (tI : PySem.W.typeIn X.K (.ref fI) = some (.type "function"))
    (F1 : FnOk X.prog X.w X.K X.mg X.base CX k fI fd ps sp) (hr : Room (k + 1) X.A) (hb : Binds X.K fd ps ds) (hd : Vals dvs ds) (hx : Passes CX X (fun _ _ _ => False)) (hg : Gl X x) (hm : X.mg x = some (.ref C)) (ha : PA X (e :: es) ta)
    (hdb : (x == ("__debug__" : Str)) = false := by decide) (he : starEach (e :: es) X.env = (false, eval e X.env) :: starEach es X.env := by rfl) (hpl : (backTo pos (starEach es X.env)).any (·.1) = false := by rfl) :
    L2N.PMk X (.Call (.Name x p) (e :: es) [] pos) (tMkO C sp dvs ta) := by
  intro pins s σ H Q I h
  obtain ⟨nm, q, N, bs, bm, sn, sub, ab, col, dd, k0, k1, k2, k3, k5, hC, hbm⟩ := T.cls
  refine wpAny_Call_Name_kw (ld_glob I hg hm ?_ hdb)
  refine PySem.W.callWith_K (h₀ := X.base) I.ok.mod.kin T.kC (thn (ha.run pos pins s σ H _ I h) fun us s1 ⟨vs, H1, I1, r1, hz, q1⟩ => ⟨I1.kIn, ?_⟩) he hpl
  show wpAny _ _ (call (.ref C) us) _ _ _
  obtain ⟨hp, g, dr, tk, os⟩ := s1
  have hsz : hp.objs.size ≤ hp.objs.size + 1 := Nat.le_succ _
  have hn : H1 (hp.objs.size + 1) = none := I1.hok.fresh hsz
  have hq := q1 (hp.objs.size + 1) hn
  have kk : ∀ b o, hp.get? b = some o → ((hp.push (PySem.W.kdv_tup us)).push (PySem.HandSPX.excO C hp.objs.size)).get? b = some o := fun b o e => Heap.get?_push_of_some _ (Heap.get?_push_of_some _ e)
  have hget : ((hp.push (PySem.W.kdv_tup us)).push (PySem.HandSPX.excO C hp.objs.size)).get? (hp.objs.size + 1) = some (PySem.HandSPX.excO C hp.objs.size) := by heap_get
  have I2 : Inv X pins σ (upd H1 (hp.objs.size + 1) (exo (hp.objs.size + 1) C none)) ⟨(hp.push (PySem.W.kdv_tup us)).push (PySem.HandSPX.excO C hp.objs.size), g, dr, tk, os⟩ :=
    I1.laid (t' := tk) (a := hp.objs.size + 1) (o := exo (hp.objs.size + 1) C none) (h' := (hp.push (PySem.W.kdv_tup us)).push (PySem.HandSPX.excO C hp.objs.size)) kk hsz (exo_ok hget)
  have r2 : Vals (V.ref (hp.objs.size + 1) :: (vs ++ dvs)) (Value.ref (hp.objs.size + 1) :: (us ++ ds)) := .cons rfl (r1.append hd)
  have hl : (Value.ref (hp.objs.size + 1) :: us ++ ds).length = ps.length := by
    have e := r2.length
    rw [F1.len _ _ _ _ hq] at e
    exact e.symm
  have hus : us.length ≤ sizeLine := by
    rw [← Paired.length r1, sizeLine_eq]
    omega
  refine wpAny_call (PySem.HandSPX.call_own F.excBase_ValueError (fun Y => PySem.HandSPX.refsVE_contains Y bm hbm) (I1.kIn _ _ hC) (PySem.W.looks_findIn I1.kIn iC) (fun self => PySem.W.bind_fn I1.kIn self tI) hus
    (codeAny_mono (F1.run _ X.stack _ _ ⟨Value.ref (hp.objs.size + 1) :: us, []⟩ (Value.ref (hp.objs.size + 1) :: (us ++ ds)) _ _ (fun _ _ _ => False) (hr.make C us []) (I2.env0.make C us []) (hb _ (Value.ref (hp.objs.size + 1) :: us) I2.kIn hl) r2 hq) fun r s' hq' => ?_))
  cases r with
  | error er => exact hx pins σ _ _ er s' I2 hq'
  | ok fl =>
    cases fl with
    | ret u =>
      obtain ⟨v, H2, os2, bare2, un2, hok2, rv, ev, d, fs, ea, ed, hd1, q2⟩ := hq'
      subst ev
      obtain ⟨h2, g2, d2, t2, os'⟩ := s'
      obtain ⟨t0, G, J, kG, ge, hoe, na⟩ := mk_end0 (d2 := d2) (t2 := t2) I1 hsz kk un2 hok2 os2 bare2 ea ed hd1
      exact ⟨rv, _, _, _, ⟨G, g2, d2, t2, os'⟩, _, .ref C, some d, rfl, J, kG, ge, hoe, ⟨rfl, rfl, fun vs e => by cases e; rfl⟩, rfl, rfl, na, rfl, bare2, raises_own T.exC T.tyC, q2⟩
    | next => exact False.elim hq'
    | brk => exact False.elim hq'
    | cont => exact False.elim hq'
theorem s_raise {X : Cx} {W : WX} {k : Nat} {x : Str} {C : Addr} {fs : List Str} {e : Expr} {es : List Expr} {ta : UA} {p pos1 pos : Pos} (E : ExcT X.prog X.w X.K X.mg X.base k x C fs) (hc : X.calm = true) (hr : Room (k + 1) X.A) (hg : Gl X x) (tk : L2N.Takes X W) (ha : TPA X W (e :: es) ta)
    (hdb : (x == ("__debug__" : Str)) = false := by decide) (he : starEach (e :: es) X.env = (false, eval e X.env) :: starEach es X.env := by rfl) (hpl : (backTo pos1 (starEach es X.env)).any (·.1) = false := by rfl) :
    TPS X W (.Raise (some (.Call (.Name x p) (e :: es) [] pos1)) none pos) (uRaise C fs ta) := by
  obtain ⟨⟨CX, f, fd, ps, T, hm, h1, h2, b, Fn, px⟩, few⟩ := E
  refine ⟨wkS (L2N.ps_raise hc tk (pmk_oexN T h1 h2 Fn hr b .nil (px X) hg hm ha.pe hdb he hpl)) fun D σ H ⟨L, F, S, I, ρ, hd, sl, h⟩ => ?_, fun D D' X1 X2 ρ S hD hXX h => ha.mono _ _ _ _ _ _ (fun xs S1 q => ⟨q.1, hXX _ _ _ _ _ q.2⟩) (fun c gs ys S1 q => hXX _ _ _ _ _ q) h⟩
  refine lA_then ha.mono hd sl h (dnXS_at sl) fun ys S1 vs H1 I1 ⟨len, q⟩ hd1 s1 sl1 r => ⟨by rw [r.len, len]; exact few, fun a na => ?_⟩
  refine ⟨a, vs, by rw [List.append_nil], by rw [r.len, len], upd_same, fun d nd nda => ⟨rfl, d, fs.zip vs, upd_same, by rw [upd_ne nda, upd_same], ?_, ?_⟩⟩
  · rw [upd_ne nda] at nd; exact nd
  · rw [upd_ne nda] at nd
    rw [upd_made na nda]
    exact q d σ _ I1 (hd1.un nd) s1 sl1 ⟨vs, upd_same, len.symm, r, hd1.freeI nd, hd1.freeS nd, hd1.freeF nd⟩
theorem exd_eq {d : Addr} {fs gs : List (Str × V)} (h : ∀ f, fs.lookup f = gs.lookup f) : exd d fs = exd d gs := by
  unfold exd
  congr 1
  funext hp
  simp only [h]
theorem upd_upd {H : Hp} {a : Addr} {o u : HO} : upd (upd H a o) a u = upd H a u := by
  funext b
  by_cases h : b = a
  · subst h; rw [upd_same, upd_same]
  · rw [upd_ne h, upd_ne h, upd_ne h]
theorem upd_comm {H : Hp} {a b : Addr} {o u : HO} (h : a ≠ b) : upd (upd H a o) b u = upd (upd H b u) a o := by
  funext c
  by_cases h1 : c = b
  · subst h1; rw [upd_same, upd_ne h.symm, upd_same]
  · rw [upd_ne h1]
    by_cases h2 : c = a
    · subst h2; rw [upd_same, upd_same]
    · rw [upd_ne h2, upd_ne h2, upd_ne h1]
/-- self.f = y, self.g = z, .. -/
def tInit (K : PySem.W.Frag) : Nat → List Str → TS
  | _, [] => fun D σ H => D.nx σ H
  | i, [f] => tOst K f (tVar 0) (tVar i)
  | i, f :: g :: r => tSeq (tOst K f (tVar 0) (tVar i)) (tInit K (i + 1) (g :: r))
theorem tInit_more {K : PySem.W.Frag} {C a d : Addr} {D : L2.Ends} {σ : L2.St} {v0 : V} (e0 : σ[0]? = some (some v0)) (ev : v0 = .ref a) (O : OexC K C) : ∀ (fs : List Str) (i : Nat) (ws : List V) (H : Hp) (us : List (Str × V)), fs ≠ [] → ws.length = fs.length → (∀ j w, ws[j]? = some w → σ[i + j]? = some (some w)) → (∀ f ∈ fs, PySem.W.findIn K (.ref C) f = some none) → us.length + fs.length ≤ 900 → H a = some (exo a C (some d)) → H d = some (exd d us) → d ≠ a →
    D.nx σ (upd H d (exd d ((fs.zip ws).reverse ++ us))) → tInit K i fs D σ H
  | [], _, _, _, _, n, _, _, _, _, _, _, _, _ => (n rfl).elim
  | [f], i, ws, H, us, _, l, g, no, fw, ha, hd, nda, q => by
    match ws, l with
    | [y], _ =>
      subst ev
      exact ⟨y, g 0 y rfl, .ref a, e0, a, C, rfl, O, no f (by simp), .inr ⟨d, us, ha, hd, by simp at fw; omega, q⟩⟩
  | f :: f2 :: r, i, ws, H, us, _, l, g, no, fw, ha, hd, nda, q => by
    match ws, l with
    | y :: ws, l =>
      refine ⟨y, g 0 y rfl, v0, e0, a, C, ev, O, no f (by simp), .inr ⟨d, us, ha, hd, by simp at fw; omega, ?_⟩⟩
      refine tInit_more e0 ev O (f2 :: r) (i + 1) ws _ ((f, y) :: us) (by simp) (by simpa using l) (fun j w h => by have := g (j + 1) w (by simpa using h); rwa [show i + (j + 1) = i + 1 + j by omega] at this) (fun x hx => no x (List.mem_cons_of_mem _ hx)) (by simp at fw ⊢; omega) (by rw [upd_ne nda.symm]; exact ha) upd_same nda ?_
      rw [upd_upd]
      have e : ((f2 :: r).zip ws).reverse ++ (f, y) :: us = ((f :: f2 :: r).zip (y :: ws)).reverse ++ us := by simp
      rw [e]; exact q
theorem zip_rev_lookup {fs : List Str} {ws : List V} (nd : fs.Nodup) (f : Str) : (fs.zip ws).reverse.lookup f = (fs.zip ws).lookup f := by
  induction fs generalizing ws with
  | nil => rfl
  | cons g r ih =>
    cases ws with
    | nil => rfl
    | cons w ws =>
      obtain ⟨h1, h2⟩ := List.nodup_cons.mp nd
      rw [List.zip_cons_cons, List.reverse_cons, List.lookup_append, ih h2]
      by_cases h : f = g
      · subst h
        have : (r.zip ws).lookup f = none := by
          rw [List.lookup_eq_none_iff]
          intro p hp
          have := List.of_mem_zip hp
          exact by
            rw [bne_iff_ne]
            intro z
            exact h1 (z ▸ this.1)
        rw [this]
        simp [List.lookup]
      · have : (f == g) = false := by simpa using h
        simp only [List.lookup, this]
        cases (r.zip ws).lookup f <;> rfl
/-- a class with `def __init__(self, y, ..): self.f = y; ..` -/
theorem DefM.excT {P : Program} {w : World} {K : PySem.W.Frag} {mg : Str → Option Value} {base : Heap} {C : Addr} {x qual : Str} {fs : List Str} {st : Stmt} {N ps : List Str} {k : Nat} (D : DefM K C "__init__" qual st []) (O : OexC K C) (g : mg x = some (.ref C)) (no : ∀ f ∈ fs, PySem.W.findIn K (.ref C) f = some none) (S : FnScope N ps (defScope st))
    (hb : ∀ (kV doc pm : Value) (an : Option Addr) (cdv ct : Value) (us : List Value), us.length = ps.length → bindArgs (PySem.W.fnOf "__init__" qual (defArgs st) (defBody st) (defScope st) .none kV doc pm an cdv ct) ⟨us, []⟩ = pure (ps.zip us)) (hl : ps.length = fs.length + 1) (nd : fs.Nodup) (h0 : fs ≠ []) (few : fs.length ≤ 100)
    (hN : ∀ (v : V) (us : List V), us.length = fs.length → ∀ (j : Nat) (u : V), (v :: us)[j]? = some u → (start N (v :: us))[j]? = some (some u))
    (body : ∀ (f : Addr) (cdv : Value) (A : Around) (outer : List Env) (s : Shared) (H : Hp) (E : XK), PSs (cxOf CX0 P w K mg base N qual (defScope st) f cdv A outer s H E).nox (defBody st) (tInit K 1 fs)) : ExcT P w K mg base (k + 1) x C fs := by
  obtain ⟨f, fd, F, h1, h2⟩ := D.ex
  refine ⟨⟨CX0, f, fd, ps, O, g, h1, beq_iff_eq.mp h2, F.bindsN hb, F.ok S (fun vs H Q E ⟨a, ws, e, l, _⟩ => by rw [e, hl]; exact congrArg (· + 1) l) fun cdv A outer s H vs Q E hr ⟨a, ws, e, l, ha, q⟩ => ⟨_, (body f cdv A outer s H E).nox, ?_⟩, fun X => pass0⟩, by omega⟩
  subst e
  have e0 : (start N (.ref a :: ws))[0]? = some (some (.ref a)) := hN _ ws l 0 _ rfl
  match fs, ws, l, h0 with
  | [f1], [y], _, _ => exact ⟨y, hN _ [y] rfl 1 y rfl, .ref a, e0, a, C, rfl, O, no f1 (by simp), .inl ⟨ha, fun d nd nda => q d nd nda⟩⟩
  | f1 :: f2 :: r, y :: ws, l, _ =>
    refine ⟨y, hN _ (y :: ws) l 1 y rfl, .ref a, e0, a, C, rfl, O, no f1 (by simp), .inl ⟨ha, fun d hd nda => ?_⟩⟩
    refine tInit_more (v0 := .ref a) e0 rfl O (f2 :: r) 2 ws _ [(f1, y)] (by simp) (by simpa using l) (fun j w h => hN _ (y :: ws) l (2 + j) w (by rw [show 2 + j = j + 1 + 1 by omega]; simpa using h)) (fun x hx => no x (List.mem_cons_of_mem _ hx)) (by simp at few ⊢; omega) upd_same (by rw [upd_ne nda, upd_same]) nda ?_
    have e : ((f2 :: r).zip ws).reverse ++ [(f1, y)] = ((f1 :: f2 :: r).zip (y :: ws)).reverse := by simp
    rw [e, upd_comm nda, upd_upd, upd_comm nda.symm, exd_eq (gs := (f1 :: f2 :: r).zip (y :: ws)) (zip_rev_lookup nd)]
    exact q d hd nda
theorem start_at {N : List Str} {vs : List V} {j : Nat} {u : V} (h : vs[j]? = some u) : (start N vs)[j]? = some (some u) := by
  unfold L2.start
  have hj : j < vs.length := (List.getElem?_eq_some_iff.mp h).1
  rw [List.getElem?_append_left (by simpa using hj), List.getElem?_map, h]
  rfl
theorem ExcT.lift {P : Program} {w : World} {K : PySem.W.Frag} {mg : Str → Option Value} {base : Heap} {j k : Nat} {x : Str} {C : Addr} {fs : List Str} (E : ExcT P w K mg base j x C fs) (h : j ≤ k) : ExcT P w K mg base k x C fs := by
  obtain ⟨⟨CX, f, fd, ps, T, hm, h1, h2, b, Fn, px⟩, few⟩ := E
  exact ⟨⟨CX, f, fd, ps, T, hm, h1, h2, b, Fn.mono h, px⟩, few⟩
/-- what is known of an exception class -/
structure XTop (mg : Str → Option Value) (x : Str) (C : Addr) : Prop where
  mg : mg x = some (.ref C)
end KQ
namespace KQ
open PySem PySem.Spec PyProof.Rows L2 TL KB
/-! ### calls with keywords -/
/-- constants as defaults -/
def cV : Tr → V
  | .bl b => .bl b
  | .int n => .int n
  | .str z => .str z
  | _ => .non
def kwV (kws : List (Str × Tr)) : List (Str × V) := kws.map fun q => (q.1, cV q.2)
/-- the parameters' values: of the written ones (0), the lacking ones (1), the keywords (2), by place -/
def pick {α : Type} (l : List (Nat × Nat)) (us mv ws : List α) : List α := l.filterMap fun p => if p.1 = 0 then us[p.2]? else if p.1 = 1 then mv[p.2]? else ws[p.2]?
theorem pick_0 {α : Type} {i : Nat} {l : List (Nat × Nat)} {us mv ws : List α} {x : α} (h : us[i]? = some x) : pick ((0, i) :: l) us mv ws = x :: pick l us mv ws := by
  unfold pick; rw [List.filterMap_cons]; simp only [if_true, h]
theorem pick_1 {α : Type} {i : Nat} {l : List (Nat × Nat)} {us mv ws : List α} {x : α} (h : mv[i]? = some x) : pick ((1, i) :: l) us mv ws = x :: pick l us mv ws := by
  unfold pick; rw [List.filterMap_cons]; simp [h]
theorem pick_2 {α : Type} {i : Nat} {l : List (Nat × Nat)} {us mv ws : List α} {x : α} (h : ws[i]? = some x) : pick ((2, i) :: l) us mv ws = x :: pick l us mv ws := by
  unfold pick; rw [List.filterMap_cons]; simp [h]
/-- a def with keyword-only parameters, as the top leaves it -/
structure DefK (K : PySem.W.Frag) (mg : Str → Option Value) (x : Str) (st : Stmt) (kws : List (Str × Tr)) : Prop where
  ex : ∃ (f : Addr) (fd : FuncData), FunD K x x (defArgs st) (defBody st) (defScope st) [] (kwV kws) f fd ∧ mg x = some (.ref f)
structure CalleeD (P : Program) (w : World) (K : PySem.W.Frag) (mg : Str → Option Value) (base : Heap) (k : Nat) (x : Str) (st : Stmt) (kws : List (Str × Tr)) (ps : List Str) (t : TSp) : Prop where
  ex : ∃ (f : Addr) (fd : FuncData), FunD K x x (defArgs st) (defBody st) (defScope st) [] (kwV kws) f fd ∧ mg x = some (.ref f) ∧ FnOk P w K mg base (L2N.CX P w) k f fd ps (lSp K t)
  mono : MonoSp t
section
variable {P : Program} {w : World} {K : PySem.W.Frag} {mg : Str → Option Value} {base : Heap} {x : Str} {st : Stmt} {kws : List (Str × Tr)} {ps : List Str} {t : TSp}
theorem CalleeD.lift {j k : Nat} (C : CalleeD P w K mg base j x st kws ps t) (h : j ≤ k) : CalleeD P w K mg base k x st kws ps t := by
  obtain ⟨⟨f, fd, F, g, O⟩, m⟩ := C
  exact ⟨⟨f, fd, F, g, O.mono h⟩, m⟩
theorem DefK.ok {N : List Str} {k : Nat} {us : US} (D : DefK K mg x st kws) (S : FnScope N ps (defScope st))
    (len : ∀ xs S Q X, t xs S Q X → xs.length = ps.length) (mono : MonoSp t) (body : BodyT P w K mg base k x st N us)
    (h : ∀ xs S Q X, Closed Q → ClosedX X → t xs S Q X → us (endU Q) (endX X) (startT N xs) S) : CalleeD P w K mg base (k + 1) x st kws ps t := by
  obtain ⟨f, fd, F, g⟩ := D.ex
  exact ⟨⟨f, fd, F, g, fnD_ok F S len body h⟩, mono⟩
end
section
variable {X : Cx} {W : WX} {e : Expr} {es : List Expr} {te : UE} {ta tk : UA} {nm : Option Str} {kpos p pos : Pos} {kl : List Keyword}
abbrev Pks := List (Nat × Nat)
def uCallK (n m : Nat) (l : Pks) (ms : List Tr) (tsp : TSp) (ta tk : UA) : UE := fun ρ S Q X => ta ρ S (fun xs S1 => tk ρ S1 (fun zs S2 => xs.length = n ∧ zs.length = m ∧ tsp (pick l xs ms zs) S2 Q X) X) X
end
end KQ
namespace KQ
open PySem PySem.Spec PyProof.Rows L2 TL KB ClX
/-! ### plain defs called by names -/
section
variable {X : Cx} {W : WX} {e : Expr} {es : List Expr} {te : UE} {ta tk : UA} {nm : Option Str} {kpos p pos : Pos} {kl : List Keyword}
end
/-! ### a constant of a class: C.f -/
def uCv (C : Addr) (t : Tr) (te : UE) : UE := fun ρ S Q X => te ρ S (fun x S1 => x = .ref C ∧ Q t S1) X
/-! ### strip -/
def gStrip (x : Tr) (ys : List Tr) (z : Tr) : Prop := match x, ys with
  | .str a, [] => a.length ≤ sizeLine ∧ z = .str (Txt.strip a)
  | _, _ => False
/-! ### upper -/
def gUpper (x : Tr) (ys : List Tr) (z : Tr) : Prop := match x, ys with
  | .str a, [] => a.length ≤ 5592405 ∧ z = .str (Txt.upper a)
  | _, _ => False
/-! ### a list repeated -/
def gRep (x y z : Tr) : Prop := match x, y with
  | .lst xs, .int k => -(2 ^ 63) ≤ k ∧ k < 2 ^ 63 ∧ xs.length * k.toNat ≤ sizeLine ∧ z = .lst (List.replicate k.toNat xs).flatten
  | _, _ => False
/-! ### x, y, .. = a list -/
def uAsgL (ps : List Pat) (te : UE) : US := fun D X ρ S => te ρ S (fun x S1 => ∃ xs, asL (vw S1 x) = some xs ∧ ∃ ρ2, patsR ps xs ρ = some ρ2 ∧ D.nx ρ2 S1) (atR X ρ)
/-! ### x, y, z = e1, e2, e3 -/
def uPar3 (i j l : Nat) (ta : UA) : US := fun D X ρ S => ta ρ S (fun xs S1 => ∃ x y z, xs = [x, y, z] ∧ D.nx (((ρ.set i (some x)).set j (some y)).set l (some z)) S1) (atR X ρ)
end KQ
namespace KQ
open PySem PySem.Spec PyProof.Rows L2 TL KB
/-! ### a list comprehension whose step may raise (the hand layer has none) -/
section
variable {M : Model} {A : Around} {E : Value → Shared → Prop} {s : Shared} {env : Env}
end
section
variable {M : Model} {A : Around} {E : Value → Shared → Prop} {s : Shared} {Z : Obj → Prop} {base : Heap} {env : Env} {outer l : List Env} {L e : Addr}
end
section
variable {X : Cx} {pins : List (Addr × Obj)} {σ : L2.St} {H : Hp}
end
section
variable {X : Cx}
end
section
variable {X : Cx}
end
/-! ### the same over trees -/
def uLcXL (ok : Sto → Prop) (p : Pat) (tt : UT) (te : UE) (ρ : Rho) (Q : QV) (X : QX) : List Tr → List Tr → Sto → Prop
  | [], acc, S => ok S ∧ Q (.lst acc) S
  | x :: xs, acc, S => ok S ∧ ∃ ρ2, patR p x ρ = some ρ2 ∧ tt ρ2 S (fun b S3 => if b = true then te ρ2 S3 (fun y S4 => acc.length < sizeLine ∧ uLcXL ok p tt te ρ Q X xs (acc ++ [y]) S4) X else uLcXL ok p tt te ρ Q X xs acc S3) X0
def uLcX (ui : UI) (p : Pat) (tt : UT) (te : UE) (vs : List Nat) : UE := fun ρ S Q X => ui ρ S (fun wk S1 => uLcXL wk.ok p tt te (wipeR ρ vs) Q X wk.xs [] S1) X
section
variable {X : Cx} {W : WX}
end
end KQ
namespace KQ
open PySem PySem.Spec PyProof.Rows L2 TL KB
/-! ### classes whose __init__ has keyword-only parameters: C(k = v, ..) -/
structure NewD (P : Program) (w : World) (K : PySem.W.Frag) (mg : Str → Option Value) (base : Heap) (k : Nat) (x : Str) (C : Addr) (qual : Str) (st : Stmt) (kws : List (Str × Tr)) (ps : List Str) (t : TSp) : Prop where
  ex : ∃ (f : Addr) (fd : FuncData) (tI : TSp), Mk K C f ∧ mg x = some (.ref C) ∧ FunD K "__init__" qual (defArgs st) (defBody st) (defScope st) [] (kwV kws) f fd ∧ FnOk P w K mg base (L2N.CX P w) k f fd ps (lSp K tI) ∧ MonoSp tI ∧
    ∀ xs S Q X, Closed Q → ClosedX X → t xs S Q X → ∀ a, S a = none → tI (.ref a :: xs) (put S a (.ins C [] [])) (fun v S2 => v = .non ∧ Q (.ref a) S2) X
  mono : MonoSp t
section
variable {P : Program} {w : World} {K : PySem.W.Frag} {mg : Str → Option Value} {base : Heap} {x qual : Str} {C : Addr} {st : Stmt} {kws : List (Str × Tr)} {ps : List Str} {t : TSp}
theorem NewD.lift {j k : Nat} (N : NewD P w K mg base j x C qual st kws ps t) (h : j ≤ k) : NewD P w K mg base k x C qual st kws ps t := by
  obtain ⟨⟨f, fd, tI, M, g, F, O, mI, q⟩, m⟩ := N
  exact ⟨⟨f, fd, tI, M, g, F, O.mono h, mI, q⟩, m⟩
end
def uNewK (m : Nat) (l : Pks) (ms : List Tr) (tsp : TSp) (tk : UA) : UE := fun ρ S Q X => tk ρ S (fun zs S2 => zs.length = m ∧ tsp (pick l [] ms zs) S2 Q X) X
section
variable {X : Cx} {W : WX} {k : Nat} {x qual : Str} {C : Addr} {st : Stmt} {kws : List (Str × Tr)} {ps ks : List Str} {ms : List (Str × Tr)} {l : Pks} {t : TSp} {kl : List Keyword} {tk : UA} {p pos : Pos}
end
end KQ
namespace KQ
open PySem PySem.Spec PyProof.Rows L2 TL KB
/-! ### == and != by an own __eq__ -/
section
variable {prog : Program} {w : World} {A : Around} {E : Value → Shared → Prop} {s : Shared} {K : PySem.W.Frag} {x C L f : Addr} {h₀ : Heap} {m : Str → Option Value} {ox : Obj} {od : Option Obj} {b tb : Value}
end
/-- x == y, x != y (n), x of a class with an own __eq__ that answers True or False -/
def uOEq (K : PySem.W.Frag) (n : Bool) (ms : Addr → TSp → Prop) (ta tb : UE) : UE := fun ρ S Q X => ta ρ S (fun x S1 => tb ρ S1 (fun y S2 => ∃ C fs xs t u, vw S2 x = .ins C fs xs ∧ ms C t ∧ tyT K (vw S2 y) u ∧ PySem.W.notFirst K C u = true ∧ t [x, y] S2 (fun z S3 => ∃ b, z = .bl b ∧ Q (.bl (n ^^ b)) S3) X) X) X
section
variable {X : Cx} {W : WX} {k : Nat} {ms : Addr → TSp → Prop} {a b : Expr} {ta tb : UE} {pos : Pos} {K : PySem.W.Frag}
end
end KQ
namespace KQ
open PySem PySem.Spec PyProof.Rows L2 TL KB
/-! ### str(None), str(True), list(a dict), x[::-1], list(x) that will change -/
section
variable {X : Cx} {W : WX} {K : PySem.W.Frag}
def rStr4 : List V → Hp → VK → Prop := fun vs H Q => KB.rStrA vs H Q ∨ (∃ b, vs = [.bl b] ∧ Q (.str (if b then Str.ofString "True" else Str.ofString "False")) H) ∨ (vs = [.non] ∧ Q (.str "None") H)
theorem str4 : CallR X (.type "str") rStr4 := by
  intro pins s σ H xs us Q I r h
  rcases h with h | ⟨b, rfl, q⟩ | ⟨rfl, q⟩
  · exact KB.str_any pins s σ H xs us Q I r h
  · obtain ⟨u, rfl, r1⟩ := vals1 r
    cases r1
    exact PySem.P.str_of_bool ⟨.str _, H, I.tok _, ⟨_, rfl⟩, q⟩
  · obtain ⟨u, rfl, r1⟩ := vals1 r
    cases r1
    exact PySem.P.str_of_none ⟨.str _, H, I.tok _, ⟨_, rfl⟩, q⟩
def gStr4 (xs : List Tr) (z : Tr) : Prop := match xs with
  | [.int i] => i.natAbs.log2 < 1920 ∧ z = .str (Str.ofString (toString i))
  | [.str a] => z = .str a
  | [.bl b] => z = .str (if b then Str.ofString "True" else Str.ofString "False")
  | [.non] => z = .str "None"
  | _ => False
theorem c_str4 : CallT K rStr4 gStr4 := by
  intro L F H S I xs z vs R hd r hg k
  unfold gStr4 at hg
  split at hg
  · rename_i i e0
    obtain ⟨x, rfl, e⟩ := map1 e0
    obtain ⟨v, rfl, r1⟩ := RepL.one r
    cases vw_eq_int hd r1 e
    obtain ⟨c, rfl⟩ := hg
    exact .inl (.inl ⟨i, rfl, c, k _ H I hd (Same.refl _) rfl⟩)
  · rename_i i e0
    obtain ⟨x, rfl, e⟩ := map1 e0
    obtain ⟨v, rfl, r1⟩ := RepL.one r
    cases vw_eq_str hd r1 e
    subst hg
    exact .inl (.inr ⟨i, rfl, k _ H I hd (Same.refl _) rfl⟩)
  · rename_i i e0
    obtain ⟨x, rfl, e⟩ := map1 e0
    obtain ⟨v, rfl, r1⟩ := RepL.one r
    cases vw_eq_bl hd r1 e
    subst hg
    exact .inr (.inl ⟨i, rfl, k _ H I hd (Same.refl _) rfl⟩)
  · rename_i e0
    obtain ⟨x, rfl, e⟩ := map1 e0
    obtain ⟨v, rfl, r1⟩ := RepL.one r
    cases vw_eq_non hd r1 e
    subst hg
    exact .inr (.inr ⟨rfl, k _ H I hd (Same.refl _) rfl⟩)
  · exact hg.elim
/-- what list(x) is made of -/
def seqOf : Tr → Option (List Tr)
  | .lst ys => some ys
  | .scr ns => some (ns.map Tr.int)
  | .tup ys => some ys
  | .dic ks _ => some (ks.map kT)
  | _ => none
def gList3 (xs : List Tr) (z : Tr) : Prop := match xs with
  | [x] => ∃ ys, seqOf x = some ys ∧ z = .lst ys
  | _ => False
def uListC (te : UE) : UE := fun ρ S Q X => te ρ S (fun x S1 => ∃ ys, seqOf (vw S1 x) = some ys ∧ ∀ p, S1 p = none → Q (.ref p) (put S1 p (.lst ys))) X
def uRev (te : UE) : UE := fun ρ S Q X => te ρ S (fun x S1 => ∃ xs, asL (vw S1 x) = some xs ∧ Q (.lst xs.reverse) S1) X
/-- x.pop(i) -/
def gPopAt (S : Sto) (xs ys xs' : List Tr) (z : Tr) : Prop := ∃ i : Int, ys = [.int i] ∧ 0 ≤ i ∧ i < 2 ^ 63 ∧ xs[i.toNat]? = some z ∧ xs' = xs.eraseIdx i.toNat
/-! ### x == [], x != [] (n), whatever x holds -/
def gNil (n : Bool) (x y z : Tr) : Prop := y = .lst [] ∧ ∃ xs, asL x = some xs ∧ z = .bl (n ^^ xs.isEmpty)
/-! ### text * int -/
def rMl2 : R2 := fun x y H Q => KB.rMl x y H Q ∨ ∃ z n, x = .str z ∧ y = .int n ∧ MulOk z n ∧ Q (.str (Txt.mul z n)) H
theorem ml2_op : OpR X (binaryOp .Mult) rMl2 := by
  refine OpR.or KB.ml_any ?_
  intro pins s σ H x y v u Q I rx ry h
  obtain ⟨z, n, rfl, rfl, hz, q⟩ := h
  obtain ⟨t, rfl⟩ := rx
  obtain ⟨t', rfl⟩ := ry
  exact SB.mul hz fun t' k => ⟨.str (Txt.mul z n), H, I.tok _, ⟨_, rfl⟩, q⟩
def gMul2 (x y z : Tr) : Prop := match x, y with
  | .str a, .int n => MulOk a n ∧ z = .str (Txt.mul a n)
  | x, y => gMul x y z
theorem o_mul2 : OpT K rMl2 gMul2 := by
  intro L F H S I x y z v w R hd rx ry hg k
  unfold gMul2 at hg
  split at hg
  · rename_i a n e1 e2
    cases vw_eq_str hd rx e1
    cases vw_eq_int hd ry e2
    obtain ⟨c, rfl⟩ := hg
    exact .inr ⟨a, n, rfl, rfl, c, k _ H I hd (Same.refl _) rfl⟩
  · exact .inl (o_mul hd rx ry hg k)
end
end KQ
/-! ### enumerate(a tuple) -/
namespace KQ
open PySem PySem.Spec PyProof.Rows L2 TL KB
/-- enumerate(x), x a list or a tuple -/
def uEnum2 (ta : UA) : UI := fun ρ S R X => ta ρ S (fun ys S1 => ∃ x xs, ys = [x] ∧ (asL (vw S1 x) = some xs ∨ vw S1 x = .tup xs) ∧ R ⟨enumT 0 xs, fun S' => vw S' x = vw S1 x⟩ S1) X
end KQ
namespace KQ
open PySem PySem.Spec PyProof.Rows L2 TL KB
/-! ### zip of two lists or of two tuples -/
def zipT (xs ys : List Tr) : List Tr := List.zipWith (fun x y => Tr.tup [x, y]) xs ys
def uZip (ta : UA) : UI := fun ρ S R X => ta ρ S (fun us S1 => ∃ x y xs ys, us = [x, y] ∧ ((asL (vw S1 x) = some xs ∧ asL (vw S1 y) = some ys) ∨ (vw S1 x = .tup xs ∧ vw S1 y = .tup ys)) ∧ R ⟨zipT xs ys, fun S' => vw S' x = vw S1 x ∧ vw S' y = vw S1 y⟩ S1) X
end KQ
namespace KQ
open PySem PySem.Spec PyProof.Rows L2 TL KB
/-! ### f'{x:<16}' and f'{n:>8,}' -/
def padR (x : PySem.Str) (n : Nat) : PySem.Str := x ++ ⟨(List.replicate (n - x.length) 32).toArray⟩
def digs (a : Int) : List Nat := (Nat.toDigits 10 a.natAbs).map Char.toNat
def grp (ds : List Nat) : List Nat := groupsFromRight' 3 44 (ds.length + 1) ds.reverse 0 []
def numT (a : Int) : PySem.Str := ⟨(List.replicate (8 - (grp (digs a)).length) 32 ++ grp (digs a)).toArray⟩
/-! ### groups of three, from the left -/
/-! ### f-strings over trees -/
section
variable {X : Cx} {W : WX} {K : PySem.W.Frag}
def gFmtS (x z : Tr) : Prop := ∃ y : PySem.Str, x = .str y ∧ y.length ≤ 1000 ∧ z = .str (padR y 16)
def gFmtN (x z : Tr) : Prop := ∃ i : Int, x = .int i ∧ 0 ≤ i ∧ i.natAbs.log2 < 1920 ∧ (numT i).length ≤ sizeLine ∧ z = .str (numT i)
def gFmt (x z : Tr) : Prop := (∃ y : PySem.Str, x = .str y ∧ y.length ≤ sizeLine ∧ z = .str y) ∨ ∃ i : Int, x = .int i ∧ i.natAbs.log2 < 1920 ∧ z = .str (toString i)
/-- list + list, the new list will change -/
def uAddC (ta tb : UE) : UE := fun ρ S Q X => ta ρ S (fun x S1 => tb ρ S1 (fun y S2 => ∃ xs ys, vw S2 x = .lst xs ∧ vw S2 y = .lst ys ∧ xs.length + ys.length ≤ sizeLine ∧ ∀ p, S2 p = none → Q (.ref p) (put S2 p (.lst (xs ++ ys)))) X) X
/-- the parts -/
inductive TPJ (X : Cx) (W : WX) : List Expr → List UE → Prop where
  | nil : TPJ X W [] []
  | cons {e : Expr} {t : UE} {es : List Expr} {ts : List UE} (h : TPE X W e t) (r : TPJ X W es ts) : TPJ X W (e :: es) (t :: ts)
def uJs : List UE → PySem.Str → Rho → Sto → (PySem.Str → Sto → Prop) → QX → Prop
  | [], acc, _, S, Q, _ => Q acc S
  | t :: ts, acc, ρ, S, Q, X => t ρ S (fun x S1 => ∃ y : PySem.Str, x = .str y ∧ (acc ++ y).length ≤ sizeLine ∧ uJs ts (acc ++ y) ρ S1 Q X) X
def uFs (ts : List UE) : UE := fun ρ S Q X => uJs ts Str.empty ρ S (fun z S1 => Q (.str z) S1) X
theorem TPJ.mono {es : List Expr} {ts : List UE} (h : TPJ X W es ts) : ∀ t ∈ ts, MonoE t := by
  induction h with
  | nil => exact fun _ h => nomatch h
  | cons h r ih =>
    intro t ht
    rcases List.mem_cons.mp ht with rfl | ht
    · exact h.mono
    · exact ih t ht
end
end KQ
namespace KQ
open PySem PySem.Spec PyProof.Rows L2 TL KB
/-! ### x op y of two unlike classes -/
section
open PySem.W
variable {prog : Program} {w : World} {A : Around} {E : Value → Shared → Prop} {s : Shared} {K : Frag} {x C D L f g : Addr} {h₀ : Heap} {m : Str → Option Value} {ox : Obj} {od : Option Obj}
end
/-- what a class must have for op, beside the method -/
structure OwnBin (K : PySem.W.Frag) (op : Operator) (C D : Addr) : Prop where
  sf : PySem.W.selfFirst K C = true
  sd : PySem.W.selfFirst K D = true
  ne : C ≠ D → PySem.W.findIn K (.ref C) (dunderR op.info.2) = some none ∧ (∃ g, PySem.W.findIn K (.ref D) (PySem.dunder op.info.2) = some (some (.ref g))) ∧ PySem.W.findIn K (.ref D) (dunderR op.info.2) = some none ∧ PySem.W.subIn K (.ref D) (.ref C) = some false
/-- x op y, each of a class of its own -/
def uOBin2 (K : PySem.W.Frag) (op : Operator) (ms : Addr → TSp → Prop) (ta tb : UE) : UE := fun ρ S Q X => ta ρ S (fun x S1 => tb ρ S1 (fun y S2 => ∃ C D fs xs gs zs t, vw S2 x = .ins C fs xs ∧ vw S2 y = .ins D gs zs ∧ OwnBin K op C D ∧ ms C t ∧ t [x, y] S2 Q X) X) X
section
variable {X : Cx} {W : WX} {K : PySem.W.Frag} {k : Nat} {ms : Addr → TSp → Prop} {a b : Expr} {ta tb : UE} {pos : Pos}
end
/-! ### ~x -/
def uOInv (ms : Addr → TSp → Prop) (ta : UE) : UE := fun ρ S Q X => ta ρ S (fun x S1 => ∃ C fs xs t, vw S1 x = .ins C fs xs ∧ ms C t ∧ t [x] S1 Q X) X
section
variable {X : Cx} {W : WX} {k : Nat} {ms : Addr → TSp → Prop} {a e : Expr} {es : List Expr} {ta tf : UE} {tr : UA} {p pos : Pos} {x : Str}
/-! ### an object called -/
def uCallO (ms : Addr → TSp → Prop) (tf : UE) (ta : UA) : UE := fun ρ S Q X => tf ρ S (fun x S1 => (∃ C fs xs, vw S1 x = .ins C fs xs) ∧ ta ρ S1 (fun ys S2 => ∃ C gs zs t, vw S2 x = .ins C gs zs ∧ ms C t ∧ t (x :: ys) S2 Q X) X) X
end
/-! ### index and count of flat items, reverse, clear -/
section
variable {K : PySem.W.Frag}
theorem RepL.reverse {I : Hp} : ∀ {xs : List Tr} {vs : List V}, RepL K I xs vs → RepL K I xs.reverse vs.reverse
  | [], _, h => by cases h; exact rfl
  | x :: xs, _, h => by
    obtain ⟨v, ws, rfl, h1, h2⟩ := h
    rw [List.reverse_cons, List.reverse_cons]
    exact h2.reverse.app (.cons h1 rfl)
end
/-! ### an __init__ that only keeps its parameters -/
def plN (C : Addr) (fs : List Str) : TSp := fun xs S Q X => xs.length = fs.length ∧ Q (.ins C fs xs) S
theorem q_plN {C : Addr} {fs : List Str} {xs : List Tr} {S : Sto} {Q : QV} {X : QX} : plN C fs xs S Q X = (xs.length = fs.length ∧ Q (.ins C fs xs) S) := propext Iff.rfl
end KQ
namespace KQ
open PySem PySem.Spec PyProof.Rows L2 TL KB
/-! ### a stable sort -/
section
variable {α β : Type} {lt : α → α → Bool}
def insS (lt : α → α → Bool) (x : α) : List α → List α
  | [] => [x]
  | y :: ys => if lt y x = true then y :: insS lt x ys else x :: y :: ys
def isort (lt : α → α → Bool) : List α → List α
  | [] => []
  | x :: xs => insS lt x (isort lt xs)
theorem insS_perm (x : α) : ∀ l, (insS lt x l).Perm (x :: l)
  | [] => List.Perm.refl _
  | y :: ys => by
    unfold insS
    split
    · exact ((insS_perm x ys).cons y).trans (List.Perm.swap x y ys)
    · exact List.Perm.refl _
theorem isort_perm : ∀ l : List α, (isort lt l).Perm l
  | [] => List.Perm.refl _
  | x :: xs => (insS_perm x _).trans ((isort_perm xs).cons x)
theorem insS_srtd (O : SrtO.Swo lt) (x : α) : ∀ l, SrtO.Srtd lt l → SrtO.Srtd lt (insS lt x l)
  | [], _ => List.pairwise_singleton _ _
  | y :: ys, h => by
    have h' := List.pairwise_cons.mp h
    unfold insS
    split
    · rename_i e
      refine List.pairwise_cons.mpr ⟨fun z hz => ?_, insS_srtd O x ys h'.2⟩
      rcases List.mem_cons.mp ((insS_perm x ys).mem_iff.mp hz) with rfl | hz
      · exact O.asym _ _ e
      · exact h'.1 z hz
    · rename_i e
      have e : lt y x = false := by simpa using e
      refine List.pairwise_cons.mpr ⟨fun z hz => ?_, h⟩
      rcases List.mem_cons.mp hz with rfl | hz
      · exact e
      · exact O.tr _ _ _ e (h'.1 z hz)
theorem isort_srtd (O : SrtO.Swo lt) : ∀ l : List α, SrtO.Srtd lt (isort lt l)
  | [] => List.Pairwise.nil
  | x :: xs => insS_srtd O x _ (isort_srtd O xs)
end
/-- texts by their signs -/
def ltS (a b : Str) : Bool := decide (a.cps.toList < b.cps.toList)
theorem swoS : SrtO.Swo ltS where
  asym := fun x y h => decide_eq_false (fun q => List.lt_asymm (of_decide_eq_true h) q)
  tr := fun x y z h1 h2 => decide_eq_false (fun q => by
    have a := of_decide_eq_false h1
    have b := of_decide_eq_false h2
    exact absurd q (List.not_lt.mpr (List.le_trans (List.not_lt.mp a) (List.not_lt.mp b))))
/-! ### lambdas -/
/-- a maker's table of code objects, all of them of the name q -/
def codT (q : Str) : Tr := .sem fun I _ o => ∃ ps : Array Value, o = .tbl ps ∧ TriplesOk ps.toList ∧ ∀ (pos : Pos) (cv : Value), codeAmong pos ps.toList = some cv → ∃ c, cv = .ref c ∧ I c = some (LamX.CodeO c q)
section
variable {X : Cx} {pins : List (Addr × Obj)} {σ : L2.St} {H I0 F : Hp} {L : Lk} {S : Sto} {s : Shared}
end
end KQ
namespace KQ
open PySem PySem.Spec PyProof.Rows L2 TL KB
/-! ### sorted(xs, key=a lambda that gives texts) -/
section
variable {prog : Program} {w : World} {A : Around} {E : Value → Shared → Prop} {s : Shared} {kS D : Addr} {keys : Array Value} {vs : List Value} {e e1 : Nat} {P : PySem.Fin → Shared → Prop}
end
end KQ
namespace KQ
open PySem PySem.Spec PyProof.Rows L2 TL KB
def ltT (key : Tr → Str) (x y : Tr) : Bool := ltS (key x) (key y)
section
variable {X : Cx} {W : WX}
end
end KQ
namespace KQ
open PySem PySem.Spec PyProof.Rows L2 TL KB
/-! ### a method that makes lambdas: its code object at c, the table of it at t -/
section
variable {P : Program} {w : World} {K : PySem.W.Frag} {mg : Str → Option Value} {base : Heap}
end
/-! ### sorted by a lambda -/
section
variable {X : Cx} {W : WX}
def uSrt (P : Addr) (q : Str) (tl tb : UE) : UE := fun ρ S Q X => tl ρ S (fun x S1 => S1 P = some (codT q) ∧ ∃ (xs : List Tr) (key : Tr → Str), vw S1 x = .lst xs ∧ xs.length ≤ 100000 ∧ (∀ y ∈ xs, tb [some y] S1 (fun z S2 => z = .str (key y) ∧ S2 = S1) X0) ∧ Q (.lst (isort (ltT key) xs)) S1) X
/-! ### texts compared -/
def gLeS (x y z : Tr) : Prop := match x, y with
  | .str i, .str j => z = .bl (!ltS j i)
  | _, _ => False
/-! ### sets of texts and integers -/
def uSet0 (P : Program) (w : World) : UE := fun _ S Q _ => ∀ p, S p = none → Q (.ref p) (put S p (.opq (SetK P w p (fun _ => false) 0)))
def uSAdd (P : Program) (w : World) (to ta : UE) : UE := fun ρ S Q X => to ρ S (fun x S1 => (∃ p f n, x = .ref p ∧ S1 p = some (.opq (SetK P w p f n))) ∧ ta ρ S1 (fun y S2 => ∃ p k f n, x = .ref p ∧ y = kT k ∧ S2 p = some (.opq (SetK P w p f n)) ∧ n + 1 < scanBound ∧ Q .non (put S2 p (.opq (SetK P w p (fun j => f j || decide (j = k)) (if f k = true then n else n + 1))))) X) X
def uSIn (P : Program) (w : World) (ta tb : UE) : UE := fun ρ S Q X => ta ρ S (fun x S1 => tb ρ S1 (fun y S2 => ∃ p k f n, y = .ref p ∧ x = kT k ∧ S2 p = some (.opq (SetK P w p f n)) ∧ Q (.bl (f k)) S2) X) X
end
end KQ
namespace KQ
open PySem PySem.Spec PyProof.Rows L2 TL KB
/-! ### sorted(rows), rows tuples that begin with a text and an integer, no two alike in both -/
def lexS (p q : Str × Int) : Bool := if p.1 = q.1 then decide (p.2 < q.2) else ltS p.1 q.1
def IsRow (h : Heap) (v : Value) (x : Str) (y : Int) : Prop := ∃ a o t u rest n, v = .ref a ∧ h.get? a = some o ∧ o.cls = .type "tuple" ∧ o.data = .seq (List.toArray (.str x t :: .int y u :: rest)) n
theorem IsRow.keeps {h h' : Heap} {v : Value} {x : Str} {y : Int} (p : IsRow h v x y) (k : ∀ b o, h.get? b = some o → o.cls = .type "tuple" → h'.get? b = some o) : IsRow h' v x y := by
  obtain ⟨a, o, t, u, r, n, e, ho, hc, hd⟩ := p
  exact ⟨a, o, t, u, r, n, e, k _ _ ho hc, hc, hd⟩
section
variable {prog : Program} {w : World} {A : Around} {E : Value → Shared → Prop} {s : Shared}
end
/-! ### over trees -/
def rowK : Tr → Str × Int
  | .tup (.str z :: .int n :: _) => (z, n)
  | _ => (Str.ofString "", 0)
def rowT (y : Tr) : Prop := ∃ z n rest, y = .tup (.str z :: .int n :: rest)
def gSortR (xs : List Tr) (z : Tr) : Prop := match xs with
  | [.lst ys] => (∀ y ∈ ys, rowT y) ∧ (ys.map rowK).Nodup ∧ z = .lst (isort (fun a b => lexS (rowK a) (rowK b)) ys)
  | _ => False
/-! ### a < b < c -/
def uChain (g g' : Tr → Tr → Tr → Prop) (ta tb tc : UE) : UE := fun ρ S Q X => ta ρ S (fun x S1 => tb ρ S1 (fun y S2 => ∃ k, g (vw S2 x) (vw S2 y) (.bl k) ∧ if k = true then tc ρ S2 (fun u S3 => ∃ z, g' (vw S3 y) (vw S3 u) z ∧ Q z S3) X else Q (.bl false) S2) X) X
section
variable {X : Cx} {W : WX} {ta tb tc : UE} {a b c : Expr} {pos : Pos}
end
end KQ
namespace KQ
open PySem PySem.Spec PyProof.Rows L2 TL KB
/-! ### a dict of the module, asked by get -/
section
variable {X : Cx} {W : WX} {e f : Expr} {p apos cpos : Pos}
abbrev KvT : Type := List (Str × Tr)
def uKGet (kvs : KvT) (te tf : UE) : UE := fun ρ S Q X => te ρ S (fun x S1 => tf ρ S1 (fun y S2 => ∃ z : Str, x = .str z ∧ Q ((kvs.lookup z).getD y) S2) X) X
end
end KQ
namespace KQ
open PySem PySem.Spec PyProof.Rows L2 TL KB
/-! ### exceptions raised while another one is handled: their context is no longer None -/
/-! ### raise C(..) from the handled one -/
/-! ### a try whose one clause raises -/
section
variable {X : Cx} {pins : List (Addr × Obj)} {σ : L2.St} {H : Hp} {s : Shared}
end
/-! ### an own exception made while another one is handled -/
structure ExcH (P : Program) (w : World) (K : PySem.W.Frag) (mg : Str → Option Value) (base : Heap) (k : Nat) (x : Str) (C : Addr) (fs : List Str) : Prop where
  ex : ∃ (CX : CXT) (f : Addr) (fd : FuncData) (ps : List Str), OexC K C ∧ mg x = some (.ref C) ∧ PySem.W.findIn K (.ref C) "__init__" = some (some (.ref f)) ∧ PySem.W.typeIn K (.ref f) = some (.type "function") ∧ Binds K fd ps [] ∧ L2H.FnH P w K mg base CX k f fd ps (spX C fs) ∧ (∀ X : Cx, Passes CX X (fun _ _ _ => False))
  few : fs.length ≤ 1000
theorem ExcH.lift {P : Program} {w : World} {K : PySem.W.Frag} {mg : Str → Option Value} {base : Heap} {j k : Nat} {x : Str} {C : Addr} {fs : List Str} (E : ExcH P w K mg base j x C fs) (h : j ≤ k) : ExcH P w K mg base k x C fs := by
  obtain ⟨⟨CX, f, fd, ps, T, hm, h1, h2, b, Fn, px⟩, few⟩ := E
  exact ⟨⟨CX, f, fd, ps, T, hm, h1, h2, b, ⟨Fn.len, fun A outer s H args us vs Q E p hr => Fn.run A outer s H args us vs Q E p (hr.mono h)⟩, px⟩, few⟩
/-! ### try: .. except X as n: raise C(..) from n -/
def xFrm (K : PySem.W.Frag) (c : Value) (i : Nat) (C : Addr) (fs : List Str) (ta : Addr → Addr → Value → UA) (X : XS) : XS := fun k gs xs ρ S => ∃ y, PySem.W.exmOne K k c = some y ∧
  (y = true → (∃ B, k = .ref B ∧ ExcC K B) ∧ i < ρ.length ∧ ∀ e d, ta e d k (ρ.set i (some (.exc e d k gs xs))) S (fun ys S2 => ys.length = fs.length ∧ X (.ref C) fs ys (ρ.set i none) S2) X0) ∧ (y = false → X k gs xs ρ S)
def uTryF (K : PySem.W.Frag) (tb : US) (c : Value) (i : Nat) (C : Addr) (fs : List Str) (ta : Addr → Addr → Value → UA) : US := fun D X ρ S => tb D (xFrm K c i C fs ta X) ρ S
/-! ### defs whose exceptions have any context -/
structure MthZ (P : Program) (w : World) (K : PySem.W.Frag) (mg : Str → Option Value) (base : Heap) (k : Nat) (C : Addr) (m : Str) (t : TSp) : Prop where
  ex : ∃ (f : Addr) (fd : FuncData) (ps : List Str), Meth K C m f ∧ Binds K fd ps [] ∧ FnOk P w K mg base (L2.CX P w) k f fd ps (lSp K t)
  cl : Cls K C
  mono : MonoSp t
theorem MthZ.lift {P : Program} {w : World} {K : PySem.W.Frag} {mg : Str → Option Value} {base : Heap} {j k : Nat} {C : Addr} {m : Str} {t : TSp} (M : MthZ P w K mg base j C m t) (h : j ≤ k) : MthZ P w K mg base k C m t := by
  obtain ⟨⟨f, fd, ps, a, b, F⟩, c, d⟩ := M
  exact ⟨⟨f, fd, ps, a, b, F.mono h⟩, c, d⟩
/-- such a method called where its exceptions are caught -/
def uMethZ (b : Bool) (C : Addr) (m : Str) (t : TSp) (to : UE) (ta : UA) : UE := fun ρ S Q X => to ρ S (fun x S1 => ∃ fs xs, vw S1 x = .ins C fs xs ∧ fget m fs xs = none ∧ ta ρ S1 (fun ys S2 => t (x :: ys) S2 Q (if b = true then X else X0)) X) X
/-! ### a try whose body lets out exceptions of any context, all caught -/
inductive HdZ (X : Cx) : List ExceptHandler → List (Value × Option Nat × Sut) → Prop
  | nil : HdZ X [] []
  | only {x : Str} {c : Value} {u : Sut} {b : Stmt} {bs : List Stmt} {p1 p2 : Pos} {hs : List ExceptHandler} {l : List (Value × Option Nat × Sut)} (nm : Names X x c)
      (su : ∀ (e : Addr) (o : Obj) (k : Value) (d : Option Addr) (pn : List (Addr × Obj)), Zc k d o → (∃ fs, o.data = .fields fs) → PSs (X.suite e ((e, o) :: pn)) (b :: bs) (u e k d)) (r : HdZ X hs l) :
      HdZ X (.ExceptHandler (some (.Name x p1)) none (b :: bs) p2 :: hs) ((c, none, u) :: l)
  | named {x n : Str} {i : Nat} {c : Value} {u : Sut} {b : Stmt} {bs : List Stmt} {p1 p2 : Pos} {hs : List ExceptHandler} {l : List (Value × Option Nat × Sut)} (nd : X.N.Nodup) (at_ : X.N[i]? = some n) (lc : X.env.kindOf n = some .local) (nm : Names X x c)
      (su : ∀ (e : Addr) (o : Obj) (k : Value) (d : Option Addr) (pn : List (Addr × Obj)), Zc k d o → (∃ fs, o.data = .fields fs) → PSs (X.suite e ((e, o) :: pn)) (b :: bs) (u e k d)) (r : HdZ X hs l) :
      HdZ X (.ExceptHandler (some (.Name x p1)) (some n) (b :: bs) p2 :: hs) ((c, some i, u) :: l)
inductive HdTZ (X : Cx) : List ExceptHandler → List (Value × Option Nat × SuU) → Prop
  | nil : HdTZ X [] []
  | only {x : Str} {c : Value} {u : SuU} {b : Stmt} {bs : List Stmt} {p1 p2 : Pos} {hs : List ExceptHandler} {l : List (Value × Option Nat × SuU)} (nm : Names X x c)
      (su : ∀ (e d : Addr) (o : Obj) (k : Value) (pn : List (Addr × Obj)), Zc k (some d) o → (∃ fs, o.data = .fields fs) → TPSs (X.suite e ((e, o) :: pn)) W0 (b :: bs) (u e d k)) (r : HdTZ X hs l) :
      HdTZ X (.ExceptHandler (some (.Name x p1)) none (b :: bs) p2 :: hs) ((c, none, u) :: l)
  | named {x n : Str} {i : Nat} {c : Value} {u : SuU} {b : Stmt} {bs : List Stmt} {p1 p2 : Pos} {hs : List ExceptHandler} {l : List (Value × Option Nat × SuU)} (nd : X.N.Nodup) (at_ : X.N[i]? = some n) (lc : X.env.kindOf n = some .local) (nm : Names X x c)
      (su : ∀ (e d : Addr) (o : Obj) (k : Value) (pn : List (Addr × Obj)), Zc k (some d) o → (∃ fs, o.data = .fields fs) → TPSs (X.suite e ((e, o) :: pn)) W0 (b :: bs) (u e d k)) (r : HdTZ X hs l) :
      HdTZ X (.ExceptHandler (some (.Name x p1)) (some n) (b :: bs) p2 :: hs) ((c, some i, u) :: l)
theorem lowZ {X : Cx} {u : SuU} {sts : List Stmt} {e : Addr} {o : Obj} {k : Value} {d : Option Addr} {pn : List (Addr × Obj)} (su : ∀ d, Zc k (some d) o → TPSs (X.suite e ((e, o) :: pn)) W0 sts (u e d k)) (z : Zc k d o) : PSs (X.suite e ((e, o) :: pn)) sts (lowS X.K u e k d) :=
  ⟨fun pins s σ H D I ⟨dd, ed, q⟩ => by subst ed; exact (su dd z).pe.run pins s σ H D I q⟩
theorem HdTZ.low {X : Cx} {hs : List ExceptHandler} {l : List (Value × Option Nat × SuU)} (h : HdTZ X hs l) : HdZ X hs (liftH X.K l) := by
  induction h with
  | nil => exact .nil
  | only nm su r ih => exact .only nm (fun e o k d pn z f => lowZ (fun dd z => su e dd o k pn z f) z) ih
  | named nd at_ lc nm su r ih => exact .named nd at_ lc nm (fun e o k d pn z f => lowZ (fun dd z => su e dd o k pn z f) z) ih
theorem HdTZ.mono {X : Cx} {hs : List ExceptHandler} {l : List (Value × Option Nat × SuU)} (h : HdTZ X hs l) : MonoH l := by
  induction h with
  | nil => exact .nil
  | only nm su r ih => exact .cons (fun e d k => (su e d ⟨k, some d, .fields #[.none, .none, .none], #[]⟩ k [] ⟨rfl, rfl⟩ ⟨_, rfl⟩).mono) ih
  | named nd at_ lc nm su r ih => exact .cons (fun e d k => (su e d ⟨k, some d, .fields #[.none, .none, .none], #[]⟩ k [] ⟨rfl, rfl⟩ ⟨_, rfl⟩).mono) ih
def uTryZ (K : PySem.W.Frag) (tb : US) (l : List (Value × Option Nat × SuU)) : US := fun D _ ρ S => tb D (hX K D XS0 l) ρ S
/-! ### C.m(x, k = v, ..): a method read off its class -/
structure MthU (P : Program) (w : World) (K : PySem.W.Frag) (mg : Str → Option Value) (base : Heap) (k : Nat) (x : Str) (C : Addr) (m qual : Str) (st : Stmt) (kws : List (Str × Tr)) (ps : List Str) (t : TSp) : Prop where
  ex : ∃ (f : Addr) (fd : FuncData) (mc : Value), mg x = some (.ref C) ∧ ClX.CRead K C mc ∧ ClX.CVal K C mc m (.ref f) (.ref f) ∧ FunD K m qual (defArgs st) (defBody st) (defScope st) [] (kwV kws) f fd ∧ FnOk P w K mg base (L2N.CX P w) k f fd ps (lSp K t)
  mono : MonoSp t
theorem MthU.lift {P : Program} {w : World} {K : PySem.W.Frag} {mg : Str → Option Value} {base : Heap} {j k : Nat} {x : Str} {C : Addr} {m qual : Str} {st : Stmt} {kws : List (Str × Tr)} {ps : List Str} {t : TSp} (M : MthU P w K mg base j x C m qual st kws ps t) (h : j ≤ k) : MthU P w K mg base k x C m qual st kws ps t := by
  obtain ⟨⟨f, fd, mc, a, b, c, d, F⟩, e⟩ := M
  exact ⟨⟨f, fd, mc, a, b, c, d, F.mono h⟩, e⟩
/-- what is known of such a method -/
structure DefU (K : PySem.W.Frag) (C : Addr) (m qual : Str) (st : Stmt) (kws : List (Str × Tr)) : Prop where
  ex : ∃ (f : Addr) (fd : FuncData) (mc : Value), ClX.CRead K C mc ∧ ClX.CVal K C mc m (.ref f) (.ref f) ∧ FunD K m qual (defArgs st) (defBody st) (defScope st) [] (kwV kws) f fd
theorem DefU.ok {P : Program} {w : World} {K : PySem.W.Frag} {mg : Str → Option Value} {base : Heap} {x : Str} {C : Addr} {m qual : Str} {st : Stmt} {kws : List (Str × Tr)} {N ps : List Str} {k : Nat} {t : TSp} {us : US} (D : DefU K C m qual st kws) (g : mg x = some (.ref C)) (S : FnScope N ps (defScope st))
    (len : ∀ xs S Q X, t xs S Q X → xs.length = ps.length) (mono : MonoSp t) (body : BodyT P w K mg base k qual st N us)
    (h : ∀ xs S Q X, Closed Q → ClosedX X → t xs S Q X → us (endU Q) (endX X) (startT N xs) S) : MthU P w K mg base (k + 1) x C m qual st kws ps t := by
  obtain ⟨f, fd, mc, a, b, F⟩ := D.ex
  exact ⟨⟨f, fd, mc, g, a, b, F, fnD_ok F S len body h⟩, mono⟩
section
variable {X : Cx} {W : WX} {k n : Nat} {x m qual : Str} {C : Addr} {st : Stmt} {kws : List (Str × Tr)} {ps ks : List Str} {ms : List (Str × Tr)} {l : List (Nat × Nat)} {t : TSp} {e : Expr} {es : List Expr} {kl : List Keyword} {ta tk : UA} {p apos pos : Pos}
end
/-! ### classmethods -/
structure DefC (K : PySem.W.Frag) (C : Addr) (m qual : Str) (st : Stmt) : Prop where
  ex : ∃ (f p : Addr) (fd : FuncData) (mc : Value), ClX.CRead K C mc ∧ ClX.CMet K C mc m p f ∧ FunD K m qual (defArgs st) (defBody st) (defScope st) [] [] f fd
structure MthC (P : Program) (w : World) (K : PySem.W.Frag) (mg : Str → Option Value) (base : Heap) (k : Nat) (x : Str) (C : Addr) (m : Str) (t : TSp) : Prop where
  ex : ∃ (f p : Addr) (mc : Value), mg x = some (.ref C) ∧ ClX.CRead K C mc ∧ ClX.CMet K C mc m p f ∧ FnR P w K mg base (L2N.CX P w) k f (lSp K t)
  mono : MonoSp t
theorem MthC.lift {P : Program} {w : World} {K : PySem.W.Frag} {mg : Str → Option Value} {base : Heap} {j k : Nat} {x : Str} {C : Addr} {m : Str} {t : TSp} (M : MthC P w K mg base j x C m t) (h : j ≤ k) : MthC P w K mg base k x C m t := by
  obtain ⟨⟨f, p, mc, a, b, c, F⟩, e⟩ := M
  exact ⟨⟨f, p, mc, a, b, c, F.mono h⟩, e⟩
theorem DefC.ok {P : Program} {w : World} {K : PySem.W.Frag} {mg : Str → Option Value} {base : Heap} {x : Str} {C : Addr} {m qual : Str} {st : Stmt} {N ps : List Str} {k : Nat} {t : TSp} {us : US} (D : DefC K C m qual st) (g : mg x = some (.ref C)) (S : FnScope N ps (defScope st))
    (hb : ∀ (kV doc pm : Value) (an : Option Addr) (cdv ct : Value) (us : List Value), us.length = ps.length → bindArgs (PySem.W.fnOf m qual (defArgs st) (defBody st) (defScope st) .none kV doc pm an cdv ct) ⟨us, []⟩ = pure (ps.zip us))
    (len : ∀ xs S Q X, t xs S Q X → xs.length = ps.length) (mono : MonoSp t) (body : BodyT P w K mg base k qual st N us)
    (h : ∀ xs S Q X, Closed Q → ClosedX X → t xs S Q X → us (endU Q) (endX X) (startT N xs) S) : MthC P w K mg base (k + 1) x C m t := by
  obtain ⟨f, p, fd, mc, a, b, F⟩ := D.ex
  refine ⟨⟨f, p, mc, g, a, b, ?_⟩, mono⟩
  exact ((fnD_ok (tsp := t) F S len body h).raw (ds := []) (dvs := []) (F.bindsN hb) .nil).imp fun vs H Q E z => by rw [List.append_nil]; exact z
def uCallC (C : Addr) (t : TSp) (ta : UA) : UE := fun ρ S Q X => ta ρ S (fun xs S1 => t (.ref C :: xs) S1 Q X0) X
/-! ### c(k = v, ..), c a local name that holds a class -/
def uNewKL (i : Nat) (C : Addr) (m : Nat) (l : Pks) (ms : List Tr) (tsp : TSp) (tk : UA) : UE := fun ρ S Q X => ρ[i]? = some (some (.ref C)) ∧ tk ρ S (fun zs S2 => zs.length = m ∧ tsp (pick l [] ms zs) S2 Q X) X
end KQ
namespace KQ
open PySem PySem.Spec PyProof.Rows L2 TL KB
/-! ### match on texts -/
abbrev UCs : Type := List (List Str × US)
def uCases : UCs → Str → US
  | [], _ => fun D _ ρ S => D.nx ρ S
  | c :: cs, z => fun D X ρ S => if z ∈ c.1 then c.2 D X ρ S else uCases cs z D X ρ S
def uMatch (te : UE) (cs : UCs) : US := fun D X ρ S => te ρ S (fun x S1 => ∃ z : Str, x = .str z ∧ uCases cs z D X ρ S1) (atR X ρ)
section
variable {X : Cx} {W : WX} {e : Expr} {te : UE} {ub : US} {ms : List MatchCase} {cs : UCs} {b : List Stmt} {p q pos : Pos} {k : Nat}
end
/-! ### while (x := a) op b -/
/-! ### D[k], D a dict of the module -/
def uKIx (kvs : KvT) (te : UE) : UE := fun ρ S Q X => te ρ S (fun x S1 => ∃ (z : Str) (t : Tr), x = .str z ∧ kvs.lookup z = some t ∧ Q t S1) X
/-! ### a written text + e.replace(..).replace(..) -/
def uRep2 (q y z y2 z2 : Str) (te : UE) : UE := fun ρ S Q X => te ρ S (fun x S1 => ∃ s, x = .str s ∧ s.length + (s.length + 1) * z.length ≤ 16777216 ∧ (Txt.replace s y z).length + ((Txt.replace s y z).length + 1) * z2.length ≤ 16777216 ∧ q.length + (Txt.replace (Txt.replace s y z) y2 z2).length ≤ sizeLine ∧ Q (.str (q ++ Txt.replace (Txt.replace s y z) y2 z2)) S1) X
end KQ
namespace KQ
open PySem PySem.Spec PyProof.Rows L2 TL KB
theorem q_uVar {i : Nat} {ρ : Rho} {S : Sto} {Q : QV} {z3 : QX} : uVar i ρ S Q z3 = (∃ x : Tr, ρ[i]? = some (some x) ∧ Q x S) := propext Iff.rfl
theorem q_uC {x : Tr} {z0 : Rho} {S : Sto} {Q : QV} {z3 : QX} : uC x z0 S Q z3 = (Q x S) := propext Iff.rfl
theorem q_u2 {ta tb : UE} {k : Tr → Tr → Sto → QV → QX → Prop} {ρ : Rho} {S : Sto} {Q : QV} {X : QX} : u2 ta tb k ρ S Q X = (ta ρ S (fun x S1 => tb ρ S1 (fun y S2 => k x y S2 Q X) X) X) := propext Iff.rfl
theorem q_uOp {g : Tr → Tr → Tr → Prop} {ta tb : UE} {ρ : Rho} {S : Sto} {Q : QV} {X : QX} : uOp g ta tb ρ S Q X = (ta ρ S (fun x S1 => tb ρ S1 (fun y S2 => ∃ z, g (vw S2 x) (vw S2 y) z ∧ Q z S2) X) X) := propext Iff.rfl
theorem q_uUn {g : Tr → Tr → Prop} {ta : UE} {ρ : Rho} {S : Sto} {Q : QV} {X : QX} : uUn g ta ρ S Q X = (ta ρ S (fun x S1 => ∃ z, g (vw S1 x) z ∧ Q z S1) X) := propext Iff.rfl
theorem q_uB {te : UE} {ρ : Rho} {S : Sto} {Q : QB} {X : QX} : uB te ρ S Q X = (te ρ S (fun x S1 => ∃ k, x = .bl k ∧ Q k S1) X) := propext Iff.rfl
theorem q_uAnd {t u : UT} {ρ : Rho} {S : Sto} {Q : QB} {X : QX} : uAnd t u ρ S Q X = (t ρ S (fun c S1 => if c = true then u ρ S1 Q X else Q false S1) X) := propext Iff.rfl
theorem q_uOr {t u : UT} {ρ : Rho} {S : Sto} {Q : QB} {X : QX} : uOr t u ρ S Q X = (t ρ S (fun c S1 => if c = true then Q true S1 else u ρ S1 Q X) X) := propext Iff.rfl
theorem q_uNot {t : UT} {ρ : Rho} {S : Sto} {Q : QB} {X : QX} : uNot t ρ S Q X = (t ρ S (fun c S1 => Q (!c) S1) X) := propext Iff.rfl
theorem q_uAndV {ta tb : UE} {ρ : Rho} {S : Sto} {Q : QV} {X : QX} : uAndV ta tb ρ S Q X = (ta ρ S (fun x S1 => ∃ c, x = .bl c ∧ if c = true then tb ρ S1 Q X else Q (.bl false) S1) X) := propext Iff.rfl
theorem q_uOrV {ta tb : UE} {ρ : Rho} {S : Sto} {Q : QV} {X : QX} : uOrV ta tb ρ S Q X = (ta ρ S (fun x S1 => ∃ c, x = .bl c ∧ if c = true then Q (.bl true) S1 else tb ρ S1 Q X) X) := propext Iff.rfl
theorem q_uNotV {ta : UE} {ρ : Rho} {S : Sto} {Q : QV} {X : QX} : uNotV ta ρ S Q X = (ta ρ S (fun x S1 => ∃ c, x = .bl c ∧ Q (.bl (!c)) S1) X) := propext Iff.rfl
theorem q_uIf {t : UT} {ta tb : UE} {ρ : Rho} {S : Sto} {Q : QV} {X : QX} : uIf t ta tb ρ S Q X = (t ρ S (fun c S1 => if c = true then ta ρ S1 Q X else tb ρ S1 Q X) X) := propext Iff.rfl
theorem q_uNil  {z0 : Rho} {S : Sto} {Q : QL} {z3 : QX} : uNil  z0 S Q z3 = (Q [] S) := propext Iff.rfl
theorem q_uCons {ta : UE} {tr : UA} {ρ : Rho} {S : Sto} {Q : QL} {X : QX} : uCons ta tr ρ S Q X = (ta ρ S (fun x S1 => tr ρ S1 (fun xs S2 => Q (x :: xs) S2) X) X) := propext Iff.rfl
theorem q_uTup {t : UA} {ρ : Rho} {S : Sto} {Q : QV} {X : QX} : uTup t ρ S Q X = (t ρ S (fun xs S1 => xs.length ≤ sizeLine ∧ Q (.tup xs) S1) X) := propext Iff.rfl
theorem q_uLst {t : UA} {ρ : Rho} {S : Sto} {Q : QV} {X : QX} : uLst t ρ S Q X = (t ρ S (fun xs S1 => xs.length ≤ sizeLine ∧ Q (.lst xs) S1) X) := propext Iff.rfl
theorem q_uLstC {t : UA} {ρ : Rho} {S : Sto} {Q : QV} {X : QX} : uLstC t ρ S Q X = (t ρ S (fun xs S1 => xs.length ≤ sizeLine ∧ ∀ p, S1 p = none → Q (.ref p) (put S1 p (.lst xs))) X) := propext Iff.rfl
theorem q_uCb {g : List Tr → Tr → Prop} {t : UA} {ρ : Rho} {S : Sto} {Q : QV} {X : QX} : uCb g t ρ S Q X = (t ρ S (fun xs S1 => ∃ z, g (xs.map (vw S1)) z ∧ Q z S1) X) := propext Iff.rfl
theorem q_uNext  {D : UEnds} {z1 : XS} {ρ : Rho} {S : Sto} : uNext  D z1 ρ S = (D.nx ρ S) := propext Iff.rfl
theorem q_uSeq {t u : US} {D : UEnds} {X : XS} {ρ : Rho} {S : Sto} : uSeq t u D X ρ S = (t { D with nx := u D X } X ρ S) := propext Iff.rfl
theorem q_uBreak  {D : UEnds} {z1 : XS} {ρ : Rho} {S : Sto} : uBreak  D z1 ρ S = (D.bk ρ S) := propext Iff.rfl
theorem q_uCont  {D : UEnds} {z1 : XS} {ρ : Rho} {S : Sto} : uCont  D z1 ρ S = (D.ct ρ S) := propext Iff.rfl
theorem q_uCut {t u : US} {D : UEnds} {X : XS} {ρ : Rho} {S : Sto} : uCut t u D X ρ S = (∀ p : QS, CutT (u D X) p → t { D with nx := p } X ρ S) := propext Iff.rfl
theorem q_uDrop {te : UE} {D : UEnds} {X : XS} {ρ : Rho} {S : Sto} : uDrop te D X ρ S = (te ρ S (fun _ S1 => D.nx ρ S1) (atR X ρ)) := propext Iff.rfl
theorem q_uRet {te : UE} {D : UEnds} {X : XS} {ρ : Rho} {S : Sto} : uRet te D X ρ S = (te ρ S D.rt (atR X ρ)) := propext Iff.rfl
theorem q_uRetN  {D : UEnds} {z1 : XS} {z2 : Rho} {S : Sto} : uRetN  D z1 z2 S = (D.rt .non S) := propext Iff.rfl
theorem q_uIfS {c : UT} {t u : US} {D : UEnds} {X : XS} {ρ : Rho} {S : Sto} : uIfS c t u D X ρ S = (c ρ S (fun b S1 => if b = true then t D X ρ S1 else u D X ρ S1) (atR X ρ)) := propext Iff.rfl
theorem q_uNever  {z0 : UEnds} {z1 : XS} {z2 : Rho} {z3 : Sto} : uNever  z0 z1 z2 z3 = (False) := propext Iff.rfl
theorem q_uSet {i : Nat} {te : UE} {D : UEnds} {X : XS} {ρ : Rho} {S : Sto} : uSet i te D X ρ S = (te ρ S (fun x S1 => D.nx (ρ.set i (some x)) S1) (atR X ρ)) := propext Iff.rfl
theorem q_uAsg {p : Pat} {te : UE} {D : UEnds} {X : XS} {ρ : Rho} {S : Sto} : uAsg p te D X ρ S = (te ρ S (fun x S1 => ∃ ρ2, patR p x ρ = some ρ2 ∧ D.nx ρ2 S1) (atR X ρ)) := propext Iff.rfl
theorem q_uPar {i j : Nat} {ta : UA} {D : UEnds} {X : XS} {ρ : Rho} {S : Sto} : uPar i j ta D X ρ S = (ta ρ S (fun xs S1 => ∃ x y, xs = [x, y] ∧ D.nx ((ρ.set i (some x)).set j (some y)) S1) (atR X ρ)) := propext Iff.rfl
theorem q_uAug {i : Nat} {g : Tr → Tr → Tr → Prop} {te : UE} {D : UEnds} {X : XS} {ρ : Rho} {S : Sto} : uAug i g te D X ρ S = (∃ x : Tr, ρ[i]? = some (some x) ∧ te ρ S (fun y S1 => ∃ z, g (vw S1 x) (vw S1 y) z ∧ D.nx (ρ.set i (some z)) S1) (atR X ρ)) := propext Iff.rfl
theorem q_uFor {ui : UI} {p : Pat} {tb : US} {D : UEnds} {X : XS} {ρ : Rho} {S : Sto} : uFor ui p tb D X ρ S = (ui ρ S (fun wk S1 => uLoop wk.ok p tb D X wk.xs ρ S1) (atR X ρ)) := propext Iff.rfl
theorem q_uSeqI {te : UE} {ρ : Rho} {S : Sto} {R : Walk → Sto → Prop} {X : QX} : uSeqI te ρ S R X = (te ρ S (fun x S1 => ∃ xs, (asL (vw S1 x) = some xs ∨ vw S1 x = .tup xs) ∧ R ⟨xs, fun S' => vw S' x = vw S1 x⟩ S1) X) := propext Iff.rfl
theorem q_uCall {tsp : TSp} {t : UA} {ρ : Rho} {S : Sto} {Q : QV} {X : QX} : uCall tsp t ρ S Q X = (t ρ S (fun xs S1 => tsp xs S1 Q X) X) := propext Iff.rfl
theorem q_uYes  {z0 : Rho} {S : Sto} {Q : QB} {z3 : QX} : uYes  z0 S Q z3 = (Q true S) := propext Iff.rfl
theorem q_uLc {ui : UI} {p : Pat} {tt : UT} {te : UE} {vs : List Nat} {ρ : Rho} {S : Sto} {Q : QV} {X : QX} : uLc ui p tt te vs ρ S Q X = (ui ρ S (fun wk S1 => uLcL wk.ok p tt te (wipeR ρ vs) Q wk.xs [] S1) X) := propext Iff.rfl
theorem q_uLcC {ui : UI} {p : Pat} {tt : UT} {te : UE} {vs : List Nat} {ρ : Rho} {S : Sto} {Q : QV} {X : QX} : uLcC ui p tt te vs ρ S Q X = (ui ρ S (fun wk S1 => uLcL wk.ok p tt te (wipeR ρ vs) (qCell Q) wk.xs [] S1) X) := propext Iff.rfl
theorem q_uPart {te : UE} {ρ : Rho} {S : Sto} {Q : Option Int → Sto → Prop} {X : QX} : uPart te ρ S Q X = (te ρ S (fun x S1 => ∃ i, vw S1 x = .int i ∧ Q (some i) S1) X) := propext Iff.rfl
theorem q_uNoPart  {ρ : Rho} {S : Sto} {Q : Option Int → Sto → Prop} {X : QX} : uNoPart  ρ S Q X = (Q none S) := propext Iff.rfl
theorem q_uSl {te : UE} {tl th : Rho → Sto → (Option Int → Sto → Prop) → QX → Prop} {ρ : Rho} {S : Sto} {Q : QV} {X : QX} : uSl te tl th ρ S Q X = (te ρ S (fun x S1 => tl ρ S1 (fun l S2 => th ρ S2 (fun u S3 => ∃ z, gSl (vw S3 x) l u z ∧ Q z S3) X) X) X) := propext Iff.rfl
theorem q_uIsi2 {K : PySem.W.Frag} {u w : Value} {te : UE} {ρ : Rho} {S : Sto} {Q : QV} {X : QX} : uIsi2 K u w te ρ S Q X = (te ρ S (fun x S1 => ∃ t b e, tyT K (vw S1 x) t ∧ PySem.W.kitOne K t u = some b ∧ PySem.W.kitOne K t w = some e ∧ Q (.bl (b || e)) S1) X) := propext Iff.rfl
theorem q_uRng1 {ta : UA} {ρ : Rho} {S : Sto} {R : Walk → Sto → Prop} {X : QX} : uRng1 ta ρ S R X = (ta ρ S (fun xs S1 => ∃ j, xs = [.int j] ∧ (-(2 ^ 62) ≤ j ∧ j < 2 ^ 62) ∧ R ⟨rngT 0 j.toNat, fun _ => True⟩ S1) X) := propext Iff.rfl
theorem q_uRng2 {ta : UA} {ρ : Rho} {S : Sto} {R : Walk → Sto → Prop} {X : QX} : uRng2 ta ρ S R X = (ta ρ S (fun xs S1 => ∃ i j, xs = [.int i, .int j] ∧ (-(2 ^ 62) ≤ i ∧ i < 2 ^ 62 ∧ -(2 ^ 62) ≤ j ∧ j < 2 ^ 62) ∧ R ⟨rngT i (j - i).toNat, fun _ => True⟩ S1) X) := propext Iff.rfl
theorem q_uStrI {te : UE} {ρ : Rho} {S : Sto} {R : Walk → Sto → Prop} {X : QX} : uStrI te ρ S R X = (te ρ S (fun x S1 => ∃ z, vw S1 x = .str z ∧ R ⟨z.cps.toList.map sgnT, fun _ => True⟩ S1) X) := propext Iff.rfl
theorem q_uEnum {ta : UA} {ρ : Rho} {S : Sto} {R : Walk → Sto → Prop} {X : QX} : uEnum ta ρ S R X = (ta ρ S (fun ys S1 => ∃ x xs, ys = [x] ∧ asL (vw S1 x) = some xs ∧ R ⟨enumT 0 xs, fun S' => vw S' x = vw S1 x⟩ S1) X) := propext Iff.rfl
theorem q_uFld {K : PySem.W.Frag} {f : Str} {te : UE} {ρ : Rho} {S : Sto} {Q : QV} {X : QX} : uFld K f te ρ S Q X = (te ρ S (fun x S1 => ∃ C fs xs y, vw S1 x = .ins C fs xs ∧ ClsF K C f ∧ fget f fs xs = some y ∧ Q y S1) X) := propext Iff.rfl
theorem q_uSFld {K : PySem.W.Frag} {f : Str} {to te : UE} {D : UEnds} {X : XS} {ρ : Rho} {S : Sto} : uSFld K f to te D X ρ S = (te ρ S (fun y S1 => to ρ S1 (fun x S2 => ∃ a C fs xs, x = .ref a ∧ S2 a = some (.ins C fs xs) ∧ ClsF K C f ∧ fs.length < 1000 ∧ D.nx ρ (put S2 a (.ins C (fputN f fs) (fputX f y fs xs)))) (atR X ρ)) (atR X ρ)) := propext Iff.rfl
theorem q_uDPut {to ti te : UE} {D : UEnds} {X : XS} {ρ : Rho} {S : Sto} : uDPut to ti te D X ρ S = (te ρ S (fun y S1 => to ρ S1 (fun x S2 => ti ρ S2 (fun j S3 => ∃ a ks xs k, x = .ref a ∧ S3 a = some (.dic ks xs) ∧ keyT (vw S3 j) = some k ∧ ks.length < sizeLine ∧ D.nx ρ (put S3 a (.dic (kputN k ks) (kputX k y ks xs)))) (atR X ρ)) (atR X ρ)) (atR X ρ)) := propext Iff.rfl
theorem q_uLPut {to ti te : UE} {D : UEnds} {X : XS} {ρ : Rho} {S : Sto} : uLPut to ti te D X ρ S = (te ρ S (fun y S1 => to ρ S1 (fun x S2 => ti ρ S2 (fun j S3 => ∃ a xs n k, x = .ref a ∧ S3 a = some (.lst xs) ∧ vw S3 j = .int n ∧ ixN xs.length n = some k ∧ D.nx ρ (put S3 a (.lst (xs.set k y)))) (atR X ρ)) (atR X ρ)) (atR X ρ)) := propext Iff.rfl
theorem q_uFrz {i : Nat} {u : US} {D : UEnds} {X : XS} {ρ : Rho} {S : Sto} : uFrz i u D X ρ S = (∃ (x y : Tr) (S' : Sto), ρ[i]? = some (some x) ∧ Frz x S y S' ∧ u D X (ρ.set i (some y)) S') := propext Iff.rfl
theorem q_uMt {T : String} {g : Tr → List Tr → Tr → Prop} {to : UE} {ta : UA} {ρ : Rho} {S : Sto} {Q : QV} {X : QX} : uMt T g to ta ρ S Q X = (to ρ S (fun x S1 => tyOk T (vw S1 x) ∧ ta ρ S1 (fun ys S2 => ∃ z, g (vw S2 x) (ys.map (vw S2)) z ∧ Q z S2) X) X) := propext Iff.rfl
theorem q_uMm {g : Sto → List Tr → List Tr → List Tr → Tr → Prop} {to : UE} {ta : UA} {ρ : Rho} {S : Sto} {Q : QV} {X : QX} : uMm g to ta ρ S Q X = (to ρ S (fun x S1 => tyOk "list" (vw S1 x) ∧ ta ρ S1 (fun ys S2 => ∃ a xs xs' z, x = .ref a ∧ S2 a = some (.lst xs) ∧ g S2 xs ys xs' z ∧ Q z (put S2 a (.lst xs'))) X) X) := propext Iff.rfl
theorem q_uForD {w : DK} {src : Rho → Sto → List Key → List Tr → Prop} {p : Pat} {tb : US} {D : UEnds} {X : XS} {ρ : Rho} {S : Sto} : uForD w src p tb D X ρ S = (∃ ks xs, src ρ S ks xs ∧ uLoop (fun _ => True) p tb D X (DK.list w ks xs) ρ S) := propext Iff.rfl
theorem q_uLcD {w : DK} {src : Rho → Sto → List Key → List Tr → Prop} {p : Pat} {tt : UT} {te : UE} {vs : List Nat} {ρ : Rho} {S : Sto} {Q : QV} {X : QX} : uLcD w src p tt te vs ρ S Q X = (∃ ks xs, src ρ S ks xs ∧ uLcL (fun _ => True) p tt te (wipeR ρ vs) Q (DK.list w ks xs) [] S) := propext Iff.rfl
theorem q_uMeth {m : Str} {ms : Addr → TSp → Prop} {to : UE} {ta : UA} {ρ : Rho} {S : Sto} {Q : QV} {X : QX} : uMeth m ms to ta ρ S Q X = (to ρ S (fun x S1 => ∃ C fs xs t, vw S1 x = .ins C fs xs ∧ ms C t ∧ fget m fs xs = none ∧ ta ρ S1 (fun ys S2 => t (x :: ys) S2 Q X) X) X) := propext Iff.rfl
theorem q_uDNew  {z0 : Rho} {S : Sto} {Q : QV} {z3 : QX} : uDNew  z0 S Q z3 = (∀ p, S p = none → Q (.ref p) (put S p (.dic [] []))) := propext Iff.rfl
theorem q_uFldAug {K : PySem.W.Frag} {f : Str} {g : Int → Int → Int} {to te : UE} {D : UEnds} {X : XS} {ρ : Rho} {S : Sto} : uFldAug K f g to te D X ρ S = (to ρ S (fun x S1 => ∃ a C fs xs i, x = .ref a ∧ S1 a = some (.ins C fs xs) ∧ ClsF K C f ∧ fget f fs xs = some (.int i) ∧ te ρ S1 (fun y S2 => ∃ fs2 xs2 j, vw S2 y = .int j ∧ S2 a = some (.ins C fs2 xs2) ∧ fs2.length < 1000 ∧ D.nx ρ (put S2 a (.ins C (fputN f fs2) (fputX f (.int (g i j)) fs2 xs2)))) (atR X ρ)) (atR X ρ)) := propext Iff.rfl
theorem q_uDisp {trs : List (UE × UE)} {ρ : Rho} {S : Sto} {Q : QV} {X : QX} : uDisp trs ρ S Q X = (uPairs trs ρ S (fun ps S2 => ∃ ks, keysOf ps = some ks ∧ ks.Nodup ∧ ks.length ≤ 15 ∧ ∀ p, S2 p = none → Q (.ref p) (put S2 p (.dic ks (ps.map (·.2))))) X) := propext Iff.rfl
theorem q_uIsi1 {K : PySem.W.Frag} {u : Value} {te : UE} {ρ : Rho} {S : Sto} {Q : QV} {X : QX} : uIsi1 K u te ρ S Q X = (te ρ S (fun x S1 => ∃ t b, tyT K (vw S1 x) t ∧ PySem.W.kitOne K t u = some b ∧ Q (.bl b) S1) X) := propext Iff.rfl
theorem q_uOBin {ms : Addr → TSp → Prop} {ta tb : UE} {ρ : Rho} {S : Sto} {Q : QV} {X : QX} : uOBin ms ta tb ρ S Q X = (ta ρ S (fun x S1 => tb ρ S1 (fun y S2 => ∃ C fs xs gs zs t, vw S2 x = .ins C fs xs ∧ vw S2 y = .ins C gs zs ∧ ms C t ∧ t [x, y] S2 Q X) X) X) := propext Iff.rfl
theorem q_uOIx {ms : Addr → TSp → Prop} {ta tb : UE} {ρ : Rho} {S : Sto} {Q : QV} {X : QX} : uOIx ms ta tb ρ S Q X = (ta ρ S (fun x S1 => tb ρ S1 (fun y S2 => ∃ C fs xs t, vw S2 x = .ins C fs xs ∧ ms C t ∧ t [x, y] S2 Q X) X) X) := propext Iff.rfl
theorem q_uOIn {n : Bool} {ms : Addr → TSp → Prop} {ta tb : UE} {ρ : Rho} {S : Sto} {Q : QV} {X : QX} : uOIn n ms ta tb ρ S Q X = (ta ρ S (fun x S1 => tb ρ S1 (fun y S2 => ∃ C fs xs t, vw S2 y = .ins C fs xs ∧ ms C t ∧ t [y, x] S2 (fun z S3 => ∃ b, z = .bl b ∧ Q (.bl (n ^^ b)) S3) X) X) X) := propext Iff.rfl
theorem q_uOLen {ms : Addr → TSp → Prop} {ta : UE} {ρ : Rho} {S : Sto} {Q : QV} {X : QX} : uOLen ms ta ρ S Q X = (ta ρ S (fun x S1 => ∃ C fs xs t, vw S1 x = .ins C fs xs ∧ ms C t ∧ t [x] S1 (fun z S2 => ∃ n : Int, z = .int n ∧ 0 ≤ n ∧ n < 9223372036854775808 ∧ Q (.int n) S2) X) X) := propext Iff.rfl
theorem q_uTry {K : PySem.W.Frag} {tb : US} {l : List (Value × Option Nat × SuU)} {D : UEnds} {X : XS} {ρ : Rho} {S : Sto} : uTry K tb l D X ρ S = (tb D (hX K D X l) ρ S) := propext Iff.rfl
theorem q_uXf {K : PySem.W.Frag} {e d : Addr} {k : Value} {f : Str} {te : UE} {ρ : Rho} {S : Sto} {Q : QV} {X : QX} : uXf K e d k f te ρ S Q X = (te ρ S (fun x S1 => ∃ C fs xs y, x = .exc e d k fs xs ∧ k = .ref C ∧ ExcC K C ∧ PySem.W.findIn K (.ref C) f = some none ∧ fget f fs xs = some y ∧ Q y S1) X) := propext Iff.rfl
theorem q_uIsE {K : PySem.W.Frag} {e d : Addr} {k u : Value} {te : UE} {ρ : Rho} {S : Sto} {Q : QV} {X : QX} : uIsE K e d k u te ρ S Q X = (te ρ S (fun x S1 => ∃ C fs xs b, x = .exc e d k fs xs ∧ k = .ref C ∧ ExcC K C ∧ PySem.W.kitOne K (.ref C) u = some b ∧ Q (.bl b) S1) X) := propext Iff.rfl
theorem q_uRaise {C : Addr} {fs : List Str} {ta : UA} {D : UEnds} {X : XS} {ρ : Rho} {S : Sto} : uRaise C fs ta D X ρ S = (ta ρ S (fun xs S1 => xs.length = fs.length ∧ X (.ref C) fs xs ρ S1) (atR X ρ)) := propext Iff.rfl
theorem q_uCallK {n m : Nat} {l : Pks} {ms : List Tr} {tsp : TSp} {ta tk : UA} {ρ : Rho} {S : Sto} {Q : QV} {X : QX} : uCallK n m l ms tsp ta tk ρ S Q X = (ta ρ S (fun xs S1 => tk ρ S1 (fun zs S2 => xs.length = n ∧ zs.length = m ∧ tsp (pick l xs ms zs) S2 Q X) X) X) := propext Iff.rfl
theorem q_uLcX {ui : UI} {p : Pat} {tt : UT} {te : UE} {vs : List Nat} {ρ : Rho} {S : Sto} {Q : QV} {X : QX} : uLcX ui p tt te vs ρ S Q X = (ui ρ S (fun wk S1 => uLcXL wk.ok p tt te (wipeR ρ vs) Q X wk.xs [] S1) X) := propext Iff.rfl
theorem q_uNewK {m : Nat} {l : Pks} {ms : List Tr} {tsp : TSp} {tk : UA} {ρ : Rho} {S : Sto} {Q : QV} {X : QX} : uNewK m l ms tsp tk ρ S Q X = (tk ρ S (fun zs S2 => zs.length = m ∧ tsp (pick l [] ms zs) S2 Q X) X) := propext Iff.rfl
theorem q_uOEq {K : PySem.W.Frag} {n : Bool} {ms : Addr → TSp → Prop} {ta tb : UE} {ρ : Rho} {S : Sto} {Q : QV} {X : QX} : uOEq K n ms ta tb ρ S Q X = (ta ρ S (fun x S1 => tb ρ S1 (fun y S2 => ∃ C fs xs t u, vw S2 x = .ins C fs xs ∧ ms C t ∧ tyT K (vw S2 y) u ∧ PySem.W.notFirst K C u = true ∧ t [x, y] S2 (fun z S3 => ∃ b, z = .bl b ∧ Q (.bl (n ^^ b)) S3) X) X) X) := propext Iff.rfl
theorem q_uListC {te : UE} {ρ : Rho} {S : Sto} {Q : QV} {X : QX} : uListC te ρ S Q X = (te ρ S (fun x S1 => ∃ ys, seqOf (vw S1 x) = some ys ∧ ∀ p, S1 p = none → Q (.ref p) (put S1 p (.lst ys))) X) := propext Iff.rfl
theorem q_uRev {te : UE} {ρ : Rho} {S : Sto} {Q : QV} {X : QX} : uRev te ρ S Q X = (te ρ S (fun x S1 => ∃ xs, asL (vw S1 x) = some xs ∧ Q (.lst xs.reverse) S1) X) := propext Iff.rfl
theorem q_uEnum2 {ta : UA} {ρ : Rho} {S : Sto} {R : Walk → Sto → Prop} {X : QX} : uEnum2 ta ρ S R X = (ta ρ S (fun ys S1 => ∃ x xs, ys = [x] ∧ (asL (vw S1 x) = some xs ∨ vw S1 x = .tup xs) ∧ R ⟨enumT 0 xs, fun S' => vw S' x = vw S1 x⟩ S1) X) := propext Iff.rfl
theorem q_uZip {ta : UA} {ρ : Rho} {S : Sto} {R : Walk → Sto → Prop} {X : QX} : uZip ta ρ S R X = (ta ρ S (fun us S1 => ∃ x y xs ys, us = [x, y] ∧ ((asL (vw S1 x) = some xs ∧ asL (vw S1 y) = some ys) ∨ (vw S1 x = .tup xs ∧ vw S1 y = .tup ys)) ∧ R ⟨zipT xs ys, fun S' => vw S' x = vw S1 x ∧ vw S' y = vw S1 y⟩ S1) X) := propext Iff.rfl
theorem q_uAddC {ta tb : UE} {ρ : Rho} {S : Sto} {Q : QV} {X : QX} : uAddC ta tb ρ S Q X = (ta ρ S (fun x S1 => tb ρ S1 (fun y S2 => ∃ xs ys, vw S2 x = .lst xs ∧ vw S2 y = .lst ys ∧ xs.length + ys.length ≤ sizeLine ∧ ∀ p, S2 p = none → Q (.ref p) (put S2 p (.lst (xs ++ ys)))) X) X) := propext Iff.rfl
theorem q_uFs {ts : List UE} {ρ : Rho} {S : Sto} {Q : QV} {X : QX} : uFs ts ρ S Q X = (uJs ts Str.empty ρ S (fun z S1 => Q (.str z) S1) X) := propext Iff.rfl
theorem q_uOBin2 {K : PySem.W.Frag} {op : Operator} {ms : Addr → TSp → Prop} {ta tb : UE} {ρ : Rho} {S : Sto} {Q : QV} {X : QX} : uOBin2 K op ms ta tb ρ S Q X = (ta ρ S (fun x S1 => tb ρ S1 (fun y S2 => ∃ C D fs xs gs zs t, vw S2 x = .ins C fs xs ∧ vw S2 y = .ins D gs zs ∧ OwnBin K op C D ∧ ms C t ∧ t [x, y] S2 Q X) X) X) := propext Iff.rfl
theorem q_uOInv {ms : Addr → TSp → Prop} {ta : UE} {ρ : Rho} {S : Sto} {Q : QV} {X : QX} : uOInv ms ta ρ S Q X = (ta ρ S (fun x S1 => ∃ C fs xs t, vw S1 x = .ins C fs xs ∧ ms C t ∧ t [x] S1 Q X) X) := propext Iff.rfl
theorem q_uCallO {ms : Addr → TSp → Prop} {tf : UE} {ta : UA} {ρ : Rho} {S : Sto} {Q : QV} {X : QX} : uCallO ms tf ta ρ S Q X = (tf ρ S (fun x S1 => (∃ C fs xs, vw S1 x = .ins C fs xs) ∧ ta ρ S1 (fun ys S2 => ∃ C gs zs t, vw S2 x = .ins C gs zs ∧ ms C t ∧ t (x :: ys) S2 Q X) X) X) := propext Iff.rfl
theorem q_uSrt {P : Addr} {q : Str} {tl tb : UE} {ρ : Rho} {S : Sto} {Q : QV} {X : QX} : uSrt P q tl tb ρ S Q X = (tl ρ S (fun x S1 => S1 P = some (codT q) ∧ ∃ (xs : List Tr) (key : Tr → Str), vw S1 x = .lst xs ∧ xs.length ≤ 100000 ∧ (∀ y ∈ xs, tb [some y] S1 (fun z S2 => z = .str (key y) ∧ S2 = S1) X0) ∧ Q (.lst (isort (ltT key) xs)) S1) X) := propext Iff.rfl
theorem q_uSet0 {P : Program} {w : World} {z0 : Rho} {S : Sto} {Q : QV} {z3 : QX} : uSet0 P w z0 S Q z3 = (∀ p, S p = none → Q (.ref p) (put S p (.opq (SetK P w p (fun _ => false) 0)))) := propext Iff.rfl
theorem q_uSAdd {P : Program} {w : World} {to ta : UE} {ρ : Rho} {S : Sto} {Q : QV} {X : QX} : uSAdd P w to ta ρ S Q X = (to ρ S (fun x S1 => (∃ p f n, x = .ref p ∧ S1 p = some (.opq (SetK P w p f n))) ∧ ta ρ S1 (fun y S2 => ∃ p k f n, x = .ref p ∧ y = kT k ∧ S2 p = some (.opq (SetK P w p f n)) ∧ n + 1 < scanBound ∧ Q .non (put S2 p (.opq (SetK P w p (fun j => f j || decide (j = k)) (if f k = true then n else n + 1))))) X) X) := propext Iff.rfl
theorem q_uSIn {P : Program} {w : World} {ta tb : UE} {ρ : Rho} {S : Sto} {Q : QV} {X : QX} : uSIn P w ta tb ρ S Q X = (ta ρ S (fun x S1 => tb ρ S1 (fun y S2 => ∃ p k f n, y = .ref p ∧ x = kT k ∧ S2 p = some (.opq (SetK P w p f n)) ∧ Q (.bl (f k)) S2) X) X) := propext Iff.rfl
theorem q_uChain {g g' : Tr → Tr → Tr → Prop} {ta tb tc : UE} {ρ : Rho} {S : Sto} {Q : QV} {X : QX} : uChain g g' ta tb tc ρ S Q X = (ta ρ S (fun x S1 => tb ρ S1 (fun y S2 => ∃ k, g (vw S2 x) (vw S2 y) (.bl k) ∧ if k = true then tc ρ S2 (fun u S3 => ∃ z, g' (vw S3 y) (vw S3 u) z ∧ Q z S3) X else Q (.bl false) S2) X) X) := propext Iff.rfl
theorem q_uKGet {kvs : KvT} {te tf : UE} {ρ : Rho} {S : Sto} {Q : QV} {X : QX} : uKGet kvs te tf ρ S Q X = (te ρ S (fun x S1 => tf ρ S1 (fun y S2 => ∃ z : Str, x = .str z ∧ Q ((kvs.lookup z).getD y) S2) X) X) := propext Iff.rfl
theorem q_uTryF {K : PySem.W.Frag} {tb : US} {c : Value} {i : Nat} {C : Addr} {fs : List Str} {ta : Addr → Addr → Value → UA} {D : UEnds} {X : XS} {ρ : Rho} {S : Sto} : uTryF K tb c i C fs ta D X ρ S = (tb D (xFrm K c i C fs ta X) ρ S) := propext Iff.rfl
theorem q_uMethZ {b : Bool} {C : Addr} {m : Str} {t : TSp} {to : UE} {ta : UA} {ρ : Rho} {S : Sto} {Q : QV} {X : QX} : uMethZ b C m t to ta ρ S Q X = (to ρ S (fun x S1 => ∃ fs xs, vw S1 x = .ins C fs xs ∧ fget m fs xs = none ∧ ta ρ S1 (fun ys S2 => t (x :: ys) S2 Q (if b = true then X else X0)) X) X) := propext Iff.rfl
theorem q_uTryZ {K : PySem.W.Frag} {tb : US} {l : List (Value × Option Nat × SuU)} {D : UEnds} {z1 : XS} {ρ : Rho} {S : Sto} : uTryZ K tb l D z1 ρ S = (tb D (hX K D XS0 l) ρ S) := propext Iff.rfl
theorem q_uCallC {C : Addr} {t : TSp} {ta : UA} {ρ : Rho} {S : Sto} {Q : QV} {X : QX} : uCallC C t ta ρ S Q X = (ta ρ S (fun xs S1 => t (.ref C :: xs) S1 Q X0) X) := propext Iff.rfl
theorem q_uNewKL {i : Nat} {C : Addr} {m : Nat} {l : Pks} {ms : List Tr} {tsp : TSp} {tk : UA} {ρ : Rho} {S : Sto} {Q : QV} {X : QX} : uNewKL i C m l ms tsp tk ρ S Q X = (ρ[i]? = some (some (.ref C)) ∧ tk ρ S (fun zs S2 => zs.length = m ∧ tsp (pick l [] ms zs) S2 Q X) X) := propext Iff.rfl
theorem q_uMatch {te : UE} {cs : UCs} {D : UEnds} {X : XS} {ρ : Rho} {S : Sto} : uMatch te cs D X ρ S = (te ρ S (fun x S1 => ∃ z : Str, x = .str z ∧ uCases cs z D X ρ S1) (atR X ρ)) := propext Iff.rfl
theorem q_uKIx {kvs : KvT} {te : UE} {ρ : Rho} {S : Sto} {Q : QV} {X : QX} : uKIx kvs te ρ S Q X = (te ρ S (fun x S1 => ∃ (z : Str) (t : Tr), x = .str z ∧ kvs.lookup z = some t ∧ Q t S1) X) := propext Iff.rfl
theorem q_uRep2 {q y z y2 z2 : Str} {te : UE} {ρ : Rho} {S : Sto} {Q : QV} {X : QX} : uRep2 q y z y2 z2 te ρ S Q X = (te ρ S (fun x S1 => ∃ s, x = .str s ∧ s.length + (s.length + 1) * z.length ≤ 16777216 ∧ (Txt.replace s y z).length + ((Txt.replace s y z).length + 1) * z2.length ≤ 16777216 ∧ q.length + (Txt.replace (Txt.replace s y z) y2 z2).length ≤ sizeLine ∧ Q (.str (q ++ Txt.replace (Txt.replace s y z) y2 z2)) S1) X) := propext Iff.rfl
-- nosimp: put_noneE hasK_nil0 law_start law_noexc calleeT_fn kt
/-! ### looking at trees -/
section
variable {S : Sto} {a p : Addr} {c x y z : Tr} {xs ys : List Tr} {ρ : Rho} {i j : Nat} {n k : Int} {b b' : Bool} {s t : Str} {Q : QV}
theorem vw_refE : vw S (.ref a) = (S a).getD (.ref a) := rfl
theorem vw_non : vw S .non = .non := rfl
theorem vw_bl : vw S (.bl b) = .bl b := rfl
theorem vw_int : vw S (.int n) = .int n := rfl
theorem vw_str : vw S (.str s) = .str s := rfl
theorem vw_ty {T : String} : vw S (.ty T) = .ty T := rfl
theorem vw_lstE : vw S (.lst xs) = .lst xs := rfl
theorem vw_tupE : vw S (.tup xs) = .tup xs := rfl
theorem vw_scrE {ns : List Int} : vw S (.scr ns) = .scr ns := rfl
theorem vw_dicE {ks : List Key} : vw S (.dic ks xs) = .dic ks xs := rfl
theorem vw_insE {C : Addr} {fs : List Str} : vw S (.ins C fs xs) = .ins C fs xs := rfl
theorem put_sameE : put S a c a = some c := put_same
theorem put_putE {d : Tr} : put (put S a c) a d = put S a d := put_put
theorem getD_some {v w : Tr} : (some v).getD w = v := rfl
/-! ### targets -/
theorem pat_nm : patR (.nm i) x ρ = some (ρ.set i (some x)) := by simp [patR]
theorem pat_tp {ps : List Pat} : patR (.tp ps) (.tup xs) ρ = patsR ps xs ρ := by simp [patR]
theorem pats_nil : patsR [] [] ρ = some ρ := by simp [patsR]
theorem pats_cons {q : Pat} {ps : List Pat} : patsR (q :: ps) (x :: xs) ρ = (patR q x ρ).bind (patsR ps xs) := by
  unfold patsR
  cases h : patR q x ρ <;> simp [h]
theorem bind_s {α β : Type} {v : α} {f : α → Option β} : (some v).bind f = f v := rfl
theorem loop_nil {ok : Sto → Prop} {q : Pat} {tb : US} {D : UEnds} {X : XS} : uLoop ok q tb D X [] ρ S = (ok S ∧ D.nx ρ S) := propext Iff.rfl
theorem loop_cons {ok : Sto → Prop} {q : Pat} {tb : US} {D : UEnds} {X : XS} : uLoop ok q tb D X (x :: xs) ρ S = (ok S ∧ ∃ ρ2, patR q x ρ = some ρ2 ∧ tb { D with nx := uLoop ok q tb D X xs, ct := uLoop ok q tb D X xs, bk := D.nx } X ρ2 S) := propext Iff.rfl
theorem lcl_nil {ok : Sto → Prop} {q : Pat} {tt : UT} {te : UE} : uLcL ok q tt te ρ Q [] ys S = (ok S ∧ Q (.lst ys) S) := propext Iff.rfl
theorem lcl_cons {ok : Sto → Prop} {q : Pat} {tt : UT} {te : UE} : uLcL ok q tt te ρ Q (x :: xs) ys S = (ok S ∧ ∃ ρ2, patR q x ρ = some ρ2 ∧ tt ρ2 S (fun b S3 => if b = true then te ρ2 S3 (fun y S4 => ys.length < sizeLine ∧ uLcL ok q tt te ρ Q xs (ys ++ [y]) S4) X0 else uLcL ok q tt te ρ Q xs ys S3) X0) := propext Iff.rfl
theorem prs_nil {R : List (Tr × Tr) → Sto → Prop} {X : QX} : uPairs [] ρ S R X = R [] S := propext Iff.rfl
theorem prs_cons {e f : UE} {r : List (UE × UE)} {R : List (Tr × Tr) → Sto → Prop} {X : QX} : uPairs ((e, f) :: r) ρ S R X = e ρ S (fun x S1 => f ρ S1 (fun y S2 => uPairs r ρ S2 (fun ps S3 => R ((x, y) :: ps) S3) X) X) X := propext Iff.rfl
/-! ### operators -/
theorem add_ii : gAdd (.int n) (.int k) z = (z = .int (n + k)) := rfl
theorem add_ss : gAdd (.str s) (.str t) z = (s.length + t.length ≤ sizeLine ∧ z = .str (s ++ t)) := rfl
theorem add_ll : gAdd (.lst xs) (.lst ys) z = (xs.length + ys.length ≤ sizeLine ∧ z = .lst (xs ++ ys)) := rfl
theorem add_tt : gAdd (.tup xs) (.tup ys) z = (xs.length + ys.length ≤ sizeLine ∧ z = .tup (xs ++ ys)) := rfl
theorem sortr_l : gSortR [.lst xs] z = ((∀ y ∈ xs, rowT y) ∧ (xs.map rowK).Nodup ∧ z = .lst (isort (fun a b => lexS (rowK a) (rowK b)) xs)) := rfl
theorem les_ss : gLeS (.str s) (.str t) z = (z = .bl (!ltS t s)) := rfl
theorem int2_ii {C : Int → Int → Prop} {f : Int → Int → Tr} : gInt2 C f (.int n) (.int k) z = (C n k ∧ z = f n k) := rfl
theorem mul_ii : gMul (.int n) (.int k) z = ((CMul n k ∨ CMulW n k) ∧ z = .int (n * k)) := rfl
theorem mul_li : gMul (.lst xs) (.int k) z = ((-(2 ^ 63) ≤ k ∧ k < 2 ^ 63 ∧ xs.length * k.toNat ≤ sizeLine) ∧ z = .lst (List.replicate k.toNat xs).flatten) := rfl
theorem mul2_ii : gMul2 (.int n) (.int k) z = ((CMul n k ∨ CMulW n k) ∧ z = .int (n * k)) := rfl
theorem mul2_li : gMul2 (.lst xs) (.int k) z = ((-(2 ^ 63) ≤ k ∧ k < 2 ^ 63 ∧ xs.length * k.toNat ≤ sizeLine) ∧ z = .lst (List.replicate k.toNat xs).flatten) := rfl
theorem mul2_si : gMul2 (.str s) (.int k) z = (MulOk s k ∧ z = .str (Txt.mul s k)) := rfl
theorem js_nil {acc : Str} {Q : Str → Sto → Prop} {X : QX} : uJs [] acc ρ S Q X = Q acc S := propext Iff.rfl
theorem js_cons {acc : Str} {t : UE} {ts : List UE} {Q : Str → Sto → Prop} {X : QX} : uJs (t :: ts) acc ρ S Q X = t ρ S (fun x S1 => ∃ y : Str, x = .str y ∧ (acc ++ y).length ≤ sizeLine ∧ uJs ts (acc ++ y) ρ S1 Q X) X := propext Iff.rfl
theorem fmt_s : gFmtS (.str s) z = (s.length ≤ 1000 ∧ z = .str (padR s 16)) := propext ⟨fun ⟨y, e, h⟩ => by cases e; exact h, fun h => ⟨_, rfl, h⟩⟩
theorem fmt_n : gFmtN (.int n) z = (0 ≤ n ∧ n.natAbs.log2 < 1920 ∧ (numT n).length ≤ sizeLine ∧ z = .str (numT n)) := propext ⟨fun ⟨y, e, h⟩ => by cases e; exact h, fun h => ⟨_, rfl, h⟩⟩
theorem fmt_0s : gFmt (.str s) z = (s.length ≤ sizeLine ∧ z = .str s) := propext ⟨fun h => by rcases h with ⟨y, e, h⟩ | ⟨y, e, h⟩ <;> cases e; exact h, fun h => .inl ⟨_, rfl, h⟩⟩
theorem fmt_0i : gFmt (.int n) z = (n.natAbs.log2 < 1920 ∧ z = .str (toString n)) := propext ⟨fun h => by rcases h with ⟨y, e, h⟩ | ⟨y, e, h⟩ <;> cases e; exact h, fun h => .inr ⟨_, rfl, h⟩⟩
theorem neg_i : gNeg (.int n) z = (z = .int (-n)) := rfl
theorem is_g : gIs b x y z = (isKT y = true ∧ z = .bl (b ^^ isT x y)) := rfl
theorem isk_n : isKT .non = true := rfl
theorem isk_b : isKT (.bl b) = true := rfl
theorem is_nn : isT .non .non = true := rfl
theorem is_bn : isT (.bl b) .non = false := rfl
theorem is_in : isT (.int n) .non = false := rfl
theorem is_sn : isT (.str s) .non = false := rfl
theorem is_rn : isT (.ref a) .non = false := rfl
theorem is_ln : isT (.lst xs) .non = false := rfl
theorem is_tn : isT (.tup xs) .non = false := rfl
theorem is_dn {ks : List Key} : isT (.dic ks xs) .non = false := rfl
theorem is_on {C : Addr} {fs : List Str} : isT (.ins C fs xs) .non = false := rfl
theorem is_nb : isT .non (.bl b) = false := rfl
theorem is_bb : isT (.bl b) (.bl b') = (b == b') := rfl
theorem is_ib : isT (.int n) (.bl b) = false := rfl
theorem is_sb : isT (.str s) (.bl b) = false := rfl
theorem is_rb : isT (.ref a) (.bl b) = false := rfl
theorem is_lb : isT (.lst xs) (.bl b) = false := rfl
theorem is_tb : isT (.tup xs) (.bl b) = false := rfl
theorem is_ob {C : Addr} {fs : List Str} : isT (.ins C fs xs) (.bl b) = false := rfl
theorem eq_ii : gEq b (.int n) (.int k) z = (z = .bl (b ^^ decide (n = k))) := by
  apply propext
  constructor
  · rintro (⟨c, e, h⟩ | ⟨e, _⟩)
    · cases e; exact h
    · cases e
  · exact fun h => .inl ⟨_, rfl, h⟩
theorem eq_ss : gEq b (.str s) (.str t) z = (z = .bl (b ^^ decide (s = t))) := by
  apply propext
  constructor
  · rintro (⟨c, e, h⟩ | ⟨e, _⟩)
    · cases e; exact h
    · cases e
  · exact fun h => .inl ⟨_, rfl, h⟩
theorem eq_bb {c d : Bool} : gEq b (.bl c) (.bl d) z = (z = .bl (b ^^ decide (c = d))) := by
  apply propext
  constructor
  · rintro (⟨c, e, h⟩ | ⟨e, _⟩)
    · cases e; exact h
    · cases e
  · exact fun h => .inl ⟨_, rfl, h⟩
theorem ix_s : gIx (.str s) (.int n) z = (s.length ≤ sizeLine ∧ ∃ c, atI s.cps.toList n = some c ∧ z = .str ⟨#[c]⟩) := by
  apply propext
  constructor
  · rintro ⟨h, i, c, e, h1, h2⟩; cases e; exact ⟨h, c, h1, h2⟩
  · rintro ⟨h, c, h1, h2⟩; exact ⟨h, n, c, rfl, h1, h2⟩
theorem ix_l : gIx (.lst xs) (.int n) z = (atI xs n = some z) := by
  apply propext
  exact ⟨fun ⟨i, e, h⟩ => by cases e; exact h, fun h => ⟨n, rfl, h⟩⟩
theorem ix_t : gIx (.tup xs) (.int n) z = (atI xs n = some z) := by
  apply propext
  exact ⟨fun ⟨i, e, h⟩ => by cases e; exact h, fun h => ⟨n, rfl, h⟩⟩
theorem ix_c {ns : List Int} : gIx (.scr ns) (.int n) z = (∃ m, atI ns n = some m ∧ z = .int m) := by
  apply propext
  exact ⟨fun ⟨i, e, h⟩ => by cases e; exact h, fun h => ⟨n, rfl, h⟩⟩
theorem ix_d {ks : List Key} : gIx (.dic ks xs) y z = (∃ k, keyT y = some k ∧ kget k ks xs = some z) := rfl
theorem key_i : keyT (.int n) = some (.inl n) := rfl
theorem key_s : keyT (.str s) = some (.inr s) := rfl
theorem at_0 : atI (x :: xs) 0 = some x := atI_nat (j := 0) rfl
theorem at_1 {w : Tr} : atI (x :: w :: xs) 1 = some w := atI_nat (j := 1) rfl
theorem at_2 {v w : Tr} : atI (x :: v :: w :: xs) 2 = some w := atI_nat (j := 2) rfl
theorem in_s : gIn b x (.str t) z = (∃ c, x = .str ⟨#[c]⟩ ∧ z = .bl (b ^^ decide (c ∈ t.cps.toList))) := rfl
theorem in_l : gIn b x (.lst ys) z = (∃ v vs, flatT x = some v ∧ flatTs ys = some vs ∧ z = .bl (b ^^ inV v vs)) := rfl
theorem in_t : gIn b x (.tup ys) z = (∃ v vs, flatT x = some v ∧ flatTs ys = some vs ∧ z = .bl (b ^^ inV v vs)) := rfl
theorem in_d {ks : List Key} : gIn b x (.dic ks xs) z = (∃ k, keyT x = some k ∧ z = .bl (b ^^ hasK k ks)) := rfl
theorem fl_i : flatT (.int n) = some (.int n) := rfl
theorem fl_s : flatT (.str s) = some (.str s) := rfl
theorem fl_b : flatT (.bl b) = some (.bl b) := rfl
theorem fl_n : flatT .non = some .non := rfl
theorem len_s : gLen [.str s] z = (s.length ≤ sizeLine ∧ z = .int s.length) := rfl
theorem len_l : gLen [.lst ys] z = (z = .int ys.length) := rfl
theorem len_c {ns : List Int} : gLen [.scr ns] z = (z = .int ns.length) := rfl
theorem len_t : gLen [.tup ys] z = (z = .int ys.length) := rfl
theorem len_d {ks : List Key} : gLen [.dic ks ys] z = (z = .int ks.length) := rfl
theorem abs_i : gAbs [.int n] z = (z = .int n.natAbs) := rfl
theorem int_i : gInt [.int n] z = (z = .int n) := rfl
theorem int_b : gInt [.bl b] z = (z = .int (if b then 1 else 0)) := rfl
theorem int_s : gInt [.str s] z = (∃ n, PySem.intText? s = some n ∧ s.length ≤ 640 ∧ z = .int n) := rfl
theorem str_i : gStr [.int n] z = (n.natAbs.log2 < 1920 ∧ z = .str (Str.ofString (toString n))) := rfl
theorem str_s : gStr [.str s] z = (z = .str s) := rfl
theorem mm_ii {f : Int → Int → Int} : gMM f [.int n, .int k] z = (z = .int (f n k)) := rfl
theorem list_l : gList [.lst ys] z = (z = .lst ys) := rfl
theorem list_t : gList [.tup ys] z = (z = .lst ys) := rfl
theorem list_c {ns : List Int} : gList [.scr ns] z = (z = .lst (ns.map Tr.int)) := rfl
theorem tuple_l : gTuple [.lst ys] z = (z = .tup ys) := rfl
theorem tuple_t : gTuple [.tup ys] z = (z = .tup ys) := rfl
theorem sl_s {lo hi : Option Int} : gSl (.str s) lo hi z = (s.length ≤ sizeLine ∧ z = .str (cutS s lo hi)) := rfl
theorem sl_l {lo hi : Option Int} : gSl (.lst xs) lo hi z = (z = .lst (cutT xs lo hi)) := rfl
theorem sl_t {lo hi : Option Int} : gSl (.tup xs) lo hi z = (z = .tup (cutT xs lo hi)) := rfl
theorem sl_c {ns : List Int} {lo hi : Option Int} : gSl (.scr ns) lo hi z = (z = .lst (cutT (ns.map Tr.int) lo hi)) := rfl
theorem asl_l : asL (.lst xs) = some xs := rfl
theorem asl_c {ns : List Int} : asL (.scr ns) = some (ns.map Tr.int) := rfl
theorem asl_t : asL (.tup xs) = none := rfl
theorem ok_l : tyOk "list" (.lst xs) = True := eq_true rfl
theorem ok_s : tyOk "str" (.str s) = True := eq_true rfl
theorem app_1 {as : List Tr} : gAppend S xs [y] as z = (xs.length < sizeLine ∧ as = xs ++ [y] ∧ z = .non) := rfl
theorem ext_1 {as : List Tr} : gExtend S xs [y] as z = (∃ zs, vw S y = .lst zs ∧ xs.length + zs.length ≤ sizeLine ∧ as = xs ++ zs ∧ z = .non) := rfl
theorem ins_1 {as : List Tr} : gInsert S xs [.int n, y] as z = (xs.length < sizeLine ∧ 0 ≤ n ∧ n < 2 ^ 63 ∧ as = xs.take n.toNat ++ [y] ++ xs.drop n.toNat ∧ z = .non) := rfl
theorem pop_1 {as : List Tr} : gPop S xs [] as z = (xs[xs.length - 1]? = some z ∧ as = xs.dropLast) := by
  unfold gPop; simp
theorem join_t : gJoin (.str s) [.tup ys] z = (∃ ts : List Str, ys = ts.map Tr.str ∧ (ts.map (·.length)).sum + ts.length * s.length ≤ 16777216 ∧ z = .str (Txt.join s ts)) := rfl
theorem join_l : gJoin (.str s) [.lst ys] z = (∃ ts : List Str, ys = ts.map Tr.str ∧ (ts.map (·.length)).sum + ts.length * s.length ≤ 16777216 ∧ z = .str (Txt.join s ts)) := rfl
theorem isdig : gIsdigit (.str s) [] z = (z = .bl (Txt.isdigit s)) := rfl
theorem rmp : gRmp (.str s) [.str t] z = (s.length ≤ sizeLine ∧ z = .str (Txt.removeprefix s t)) := rfl
theorem all_l {f : List Bool → Bool} : gAll f [.lst ys] z = (∃ bs, blsOf ys = some bs ∧ z = .bl (f bs)) := rfl
end
section
variable {K : PySem.W.Frag} {x c : Tr} {z : Tr} {t u : Value} {n : Int} {b : Bool} {s : Str} {xs : List Tr}
theorem isi_2 : gIsi K [x, c] z = (∃ t u b, tyT K x t ∧ clsT c u ∧ PySem.W.kitOne K t u = some b ∧ z = .bl b) := rfl
theorem ty_n : tyT K .non t = (t = .type "NoneType") := rfl
theorem ty_b : tyT K (.bl b) t = (t = .type "bool") := rfl
theorem ty_i : tyT K (.int n) t = (t = .type "int") := rfl
theorem ty_s : tyT K (.str s) t = (t = .type "str") := rfl
theorem ty_l : tyT K (.lst xs) t = (t = .type "list") := rfl
theorem ty_t : tyT K (.tup xs) t = (t = .type "tuple") := rfl
theorem ty_o {C : Addr} {fs : List Str} : tyT K (.ins C fs xs) t = (ClsI K C ∧ t = .ref C) := rfl
theorem cls_t {T : String} : clsT (.ty T) u = (u = .type T) := rfl
theorem cls_c {C : Addr} : clsT (.ref C) u = (u = .ref C) := rfl
theorem kt {n T : String} {b : Bool} (h : kitB n T = some b) : PySem.W.kitOne K (.type n) (.type T) = some b := kit_ty h
theorem k_ni : PySem.W.kitOne K (.type "NoneType") (.type "int") = some false := kt kb_NoneType_int
theorem k_ns : PySem.W.kitOne K (.type "NoneType") (.type "str") = some false := kt kb_NoneType_str
theorem k_nb : PySem.W.kitOne K (.type "NoneType") (.type "bool") = some false := kt kb_NoneType_bool
theorem k_nl : PySem.W.kitOne K (.type "NoneType") (.type "list") = some false := kt kb_NoneType_list
theorem k_nt : PySem.W.kitOne K (.type "NoneType") (.type "tuple") = some false := kt kb_NoneType_tuple
theorem k_bi : PySem.W.kitOne K (.type "bool") (.type "int") = some true := kt kb_bool_int
theorem k_bs : PySem.W.kitOne K (.type "bool") (.type "str") = some false := kt kb_bool_str
theorem k_bb : PySem.W.kitOne K (.type "bool") (.type "bool") = some true := kt kb_bool_bool
theorem k_bl : PySem.W.kitOne K (.type "bool") (.type "list") = some false := kt kb_bool_list
theorem k_bt : PySem.W.kitOne K (.type "bool") (.type "tuple") = some false := kt kb_bool_tuple
theorem k_ii : PySem.W.kitOne K (.type "int") (.type "int") = some true := kt kb_int_int
theorem k_is : PySem.W.kitOne K (.type "int") (.type "str") = some false := kt kb_int_str
theorem k_ib : PySem.W.kitOne K (.type "int") (.type "bool") = some false := kt kb_int_bool
theorem k_il : PySem.W.kitOne K (.type "int") (.type "list") = some false := kt kb_int_list
theorem k_it : PySem.W.kitOne K (.type "int") (.type "tuple") = some false := kt kb_int_tuple
theorem k_si : PySem.W.kitOne K (.type "str") (.type "int") = some false := kt kb_str_int
theorem k_ss : PySem.W.kitOne K (.type "str") (.type "str") = some true := kt kb_str_str
theorem k_sb : PySem.W.kitOne K (.type "str") (.type "bool") = some false := kt kb_str_bool
theorem k_sl : PySem.W.kitOne K (.type "str") (.type "list") = some false := kt kb_str_list
theorem k_st : PySem.W.kitOne K (.type "str") (.type "tuple") = some false := kt kb_str_tuple
theorem k_li : PySem.W.kitOne K (.type "list") (.type "int") = some false := kt kb_list_int
theorem k_ls : PySem.W.kitOne K (.type "list") (.type "str") = some false := kt kb_list_str
theorem k_lb : PySem.W.kitOne K (.type "list") (.type "bool") = some false := kt kb_list_bool
theorem k_ll : PySem.W.kitOne K (.type "list") (.type "list") = some true := kt kb_list_list
theorem k_lt : PySem.W.kitOne K (.type "list") (.type "tuple") = some false := kt kb_list_tuple
theorem k_ti : PySem.W.kitOne K (.type "tuple") (.type "int") = some false := kt kb_tuple_int
theorem k_ts : PySem.W.kitOne K (.type "tuple") (.type "str") = some false := kt kb_tuple_str
theorem k_tb : PySem.W.kitOne K (.type "tuple") (.type "bool") = some false := kt kb_tuple_bool
theorem k_tl : PySem.W.kitOne K (.type "tuple") (.type "list") = some false := kt kb_tuple_list
theorem k_tt : PySem.W.kitOne K (.type "tuple") (.type "tuple") = some true := kt kb_tuple_tuple
end
theorem ofS_inj {a b : String} : (Str.ofString a = Str.ofString b) = (a = b) := by
  apply propext
  constructor
  · intro h
    have e := congrArg tl h
    rw [tl_ofString, tl_ofString] at e
    have e2 : a.toList = b.toList := by
      have inj : ∀ {l m : List Char}, l.map Char.toNat = m.map Char.toNat → l = m := by
        intro l
        induction l with
        | nil => intro m h; cases m with
          | nil => rfl
          | cons _ _ => cases h
        | cons x l ih => intro m h; cases m with
          | nil => cases h
          | cons y m =>
            rw [List.map_cons, List.map_cons] at h
            injection h with h1 h2
            rw [ih h2, Char.toNat_inj.mp h1]
      exact inj e
    exact String.toList_inj.mp e2
  · rintro rfl; rfl
theorem fget_c {f g : Str} {gs : List Str} {x : Tr} {xs : List Tr} : fget f (g :: gs) (x :: xs) = if f = g then some x else fget f gs xs := rfl
theorem fget_n {f : Str} {xs : List Tr} : fget f [] xs = none := rfl
theorem fputN_n {f : Str} : fputN f [] = [f] := rfl
theorem fputN_c {f g : Str} {gs : List Str} : fputN f (g :: gs) = if g = f then g :: gs else g :: fputN f gs := rfl
theorem fputX_n {f : Str} {y : Tr} {xs : List Tr} : fputX f y [] xs = [y] := by cases xs <;> rfl
theorem fputX_c {f g : Str} {gs : List Str} {x y : Tr} {xs : List Tr} : fputX f y (g :: gs) (x :: xs) = if g = f then y :: xs else x :: fputX f y gs xs := rfl
theorem map_vw0 {S : Sto} : ([] : List Tr).map (vw S) = [] := rfl
theorem map_vw {S : Sto} {x : Tr} {xs : List Tr} : (x :: xs).map (vw S) = vw S x :: xs.map (vw S) := rfl
theorem xFrmE {K : PySem.W.Frag} {c : Value} {i : Nat} {C : Addr} {fs : List Str} {ta : Addr → Addr → Value → UA} {X : XS} {k : Value} {gs : List Str} {xs : List Tr} {ρ : Rho} {S : Sto} : xFrm K c i C fs ta X k gs xs ρ S = (∃ y, PySem.W.exmOne K k c = some y ∧
  (y = true → (∃ B, k = .ref B ∧ ExcC K B) ∧ i < ρ.length ∧ ∀ e d, ta e d k (ρ.set i (some (.exc e d k gs xs))) S (fun ys S2 => ys.length = fs.length ∧ X (.ref C) fs ys (ρ.set i none) S2) X0) ∧ (y = false → X k gs xs ρ S)) := propext Iff.rfl
theorem hX_nil {K : PySem.W.Frag} {D : UEnds} {X : XS} {k : Value} {fs : List Str} {xs : List Tr} {ρ : Rho} {S : Sto} : hX K D X [] k fs xs ρ S = X k fs xs ρ S := rfl
theorem hX_only {K : PySem.W.Frag} {D : UEnds} {X : XS} {k c : Value} {u : SuU} {r : List (Value × Option Nat × SuU)} {fs : List Str} {xs : List Tr} {ρ : Rho} {S : Sto} : hX K D X ((c, none, u) :: r) k fs xs ρ S = (∃ y, PySem.W.exmOne K k c = some y ∧ (y = true → ∀ e d, u e d k D XS0 ρ S) ∧ (y = false → hX K D X r k fs xs ρ S)) := propext Iff.rfl
theorem hX_named {K : PySem.W.Frag} {D : UEnds} {X : XS} {k c : Value} {i : Nat} {u : SuU} {r : List (Value × Option Nat × SuU)} {fs : List Str} {xs : List Tr} {ρ : Rho} {S : Sto} : hX K D X ((c, some i, u) :: r) k fs xs ρ S = (∃ y, PySem.W.exmOne K k c = some y ∧ (y = true → ∀ e d, u e d k (clrU i D) XS0 (ρ.set i (some (.exc e d k fs xs))) S) ∧ (y = false → hX K D X r k fs xs ρ S)) := propext Iff.rfl
theorem len_tf1 {x : Tr} {f : Str} : ([x].length = [f].length) = True := eq_true rfl
theorem len_tf2 {x y : Tr} {f g : Str} : ([x, y].length = [f, g].length) = True := eq_true rfl
theorem len_tf3 {x y z : Tr} {f g h : Str} : ([x, y, z].length = [f, g, h].length) = True := eq_true rfl
theorem clrU_nx {i : Nat} {D : UEnds} {ρ : Rho} {S : Sto} : (clrU i D).nx ρ S = D.nx (ρ.set i none) S := rfl
theorem clrU_rt {i : Nat} {D : UEnds} {x : Tr} {S : Sto} : (clrU i D).rt x S = D.rt x S := rfl
theorem clrU_bk {i : Nat} {D : UEnds} {ρ : Rho} {S : Sto} : (clrU i D).bk ρ S = D.bk (ρ.set i none) S := rfl
theorem clrU_ct {i : Nat} {D : UEnds} {ρ : Rho} {S : Sto} : (clrU i D).ct ρ S = D.ct (ρ.set i none) S := rfl
theorem vw_excE {S : Sto} {e d : Addr} {k : Value} {fs : List Str} {xs : List Tr} : vw S (.exc e d k fs xs) = .exc e d k fs xs := rfl
theorem atR_e {X : XS} {ρ : Rho} {c : Value} {fs : List Str} {xs : List Tr} {S : Sto} : atR X ρ c fs xs S = X c fs xs ρ S := rfl
theorem wipeR_n {ρ : Rho} : wipeR ρ [] = ρ := rfl
theorem wipeR_c {ρ : Rho} {i : Nat} {r : List Nat} : wipeR ρ (i :: r) = (wipeR ρ r).set i none := rfl
theorem endX_e {X : QX} {ρ : Rho} {c : Value} {fs : List Str} {xs : List Tr} {S : Sto} : endX X c fs xs ρ S = X c fs xs S := rfl
theorem endU_nx {Q : QV} {ρ : Rho} {S : Sto} : (endU Q).nx ρ S = Q .non S := rfl
theorem endU_rt {Q : QV} {x : Tr} {S : Sto} : (endU Q).rt x S = Q x S := rfl
theorem srcV_e {i : Nat} {ρ : Rho} {S : Sto} {ks : List Key} {xs : List Tr} : srcV i ρ S ks xs = (ρ[i]? = some (some (.dic ks xs))) := rfl
theorem srcF_e {K : PySem.W.Frag} {i : Nat} {f : Str} {ρ : Rho} {S : Sto} {ks : List Key} {xs : List Tr} : srcF K i f ρ S ks xs = (∃ (x : Tr) (C : Addr) (fs : List Str) (ys : List Tr), ρ[i]? = some (some x) ∧ vw S x = .ins C fs ys ∧ ClsF K C f ∧ fget f fs ys = some (.dic ks xs)) := propext Iff.rfl
theorem cmul_rE {i j : Int} (h1 : -18446744073709551616 < j) (h2 : j < 18446744073709551616) : (CMul i j ∨ CMulW i j) = True := eq_true (.inl (.inr ⟨h1, h2⟩))
theorem cmul_lE {i j : Int} (h1 : -18446744073709551616 < i) (h2 : i < 18446744073709551616) : (CMul i j ∨ CMulW i j) = True := eq_true (.inl (.inl ⟨h1, h2⟩))
theorem cpow_E {n : Int} (h0 : 0 ≤ n) (h1 : n ≤ 1000) : CPow 10 n = True := eq_true ⟨h0, by omega, by decide⟩
theorem szT0 : (([] : List Tr).length ≤ sizeLine) = True := eq_true (by show 0 ≤ sizeLine; decide)
theorem szT1 {x0 : Tr} : (([x0] : List Tr).length ≤ sizeLine) = True := eq_true (by show 1 ≤ sizeLine; decide)
theorem szT2 {x0 x1 : Tr} : (([x0, x1] : List Tr).length ≤ sizeLine) = True := eq_true (by show 2 ≤ sizeLine; decide)
theorem szT3 {x0 x1 x2 : Tr} : (([x0, x1, x2] : List Tr).length ≤ sizeLine) = True := eq_true (by show 3 ≤ sizeLine; decide)
theorem szT4 {x0 x1 x2 x3 : Tr} : (([x0, x1, x2, x3] : List Tr).length ≤ sizeLine) = True := eq_true (by show 4 ≤ sizeLine; decide)
theorem szT5 {x0 x1 x2 x3 x4 : Tr} : (([x0, x1, x2, x3, x4] : List Tr).length ≤ sizeLine) = True := eq_true (by show 5 ≤ sizeLine; decide)
theorem szT6 {x0 x1 x2 x3 x4 x5 : Tr} : (([x0, x1, x2, x3, x4, x5] : List Tr).length ≤ sizeLine) = True := eq_true (by show 6 ≤ sizeLine; decide)
theorem szT7 {x0 x1 x2 x3 x4 x5 x6 : Tr} : (([x0, x1, x2, x3, x4, x5, x6] : List Tr).length ≤ sizeLine) = True := eq_true (by show 7 ≤ sizeLine; decide)
theorem szT8 {x0 x1 x2 x3 x4 x5 x6 x7 : Tr} : (([x0, x1, x2, x3, x4, x5, x6, x7] : List Tr).length ≤ sizeLine) = True := eq_true (by show 8 ≤ sizeLine; decide)
/-! ### classes as the top has made them; the law's end -/
def sp_law : TSp := fun xs S Q X => ∃ ns : List Int, xs = [.scr ns] ∧ ns.length ≤ 63 ∧ Q (.bl true) S
theorem law_start {K : PySem.W.Frag} {H : Hp} {a : Addr} {ns : List Int} (hl : ns.length ≤ 63) (hS : SqL K H a (ns.map V.int)) : lSp K sp_law [.ref a] H (fun v _ => v = .bl true) (fun _ _ _ => False) := by
  refine ⟨fun _ => none, fun _ => none, fun _ => none, fun b => if b = a then H b else none, [.scr ns], ⟨fun b o e => ?_, fun b od e => (nomatch e), fun b c e => (nomatch e), fun b o e => (nomatch e)⟩, .cons ⟨a, rfl, ?_⟩ rfl, ns, rfl, hl, fun v H' I' _ _ r => r⟩
  · split at e
    · exact e
    · cases e
  · rcases hS with (h | ⟨o, h⟩) | h
    · exact .inl (.inl (by simpa using h))
    · exact .inl (.inr ⟨o, by simpa using h⟩)
    · exact .inr h
theorem law_noexc {P : Program} {w : World} {outer : List Env} {H : Hp} {s s' : Shared} {e : Value} (h : L2N.CX P w outer H s (fun _ _ _ => False) e s') : False := by
  obtain ⟨_, _, _, _, _, _, _, _, _, _, _, _, z⟩ := h
  exact z
theorem calleeT_fn {P : Program} {w : World} {K : PySem.W.Frag} {mg : Str → Option Value} {base : Heap} {k : Nat} {x : Str} {ps : List Str} {t : TSp} {st : Stmt} {f : Addr} {fd : FuncData} (F : Fun K x x st f fd) (g : mg x = some (.ref f)) (C : CalleeT P w K mg base k x ps t) : FnOk P w K mg base (L2N.CX P w) k f fd ps (lSp K t) := by
  obtain ⟨f', fd', g', kp, b, R, oc', od', sl', lk'⟩ := C.ex
  rw [g] at g'
  cases g'
  obtain ⟨oc, od, kV, doc, pm, an, cdv, ct, osl, e, lk, _⟩ := F.ex
  rw [lk] at lk'
  cases lk'
  exact R
theorem ex_sw1 {α β : Type} {p : β → Prop} {f : β → α} {q : α → Prop} : (∃ x, (∃ c, p c ∧ x = f c) ∧ q x) = (∃ c, p c ∧ q (f c)) := by
  apply propext
  exact ⟨fun ⟨x, ⟨c, h, e⟩, g⟩ => ⟨c, h, e ▸ g⟩, fun ⟨c, h, g⟩ => ⟨_, ⟨c, h, rfl⟩, g⟩⟩
theorem ex_sw2 {α β : Type} {p r : β → Prop} {f : β → α} {q : α → Prop} : (∃ x, (∃ c, p c ∧ r c ∧ x = f c) ∧ q x) = (∃ c, p c ∧ r c ∧ q (f c)) := by
  apply propext
  exact ⟨fun ⟨x, ⟨c, h, h2, e⟩, g⟩ => ⟨c, h, h2, e ▸ g⟩, fun ⟨c, h, h2, g⟩ => ⟨_, ⟨c, h, h2, rfl⟩, g⟩⟩
theorem kT_i {n : Int} : kT (.inl n) = .int n := rfl
theorem kT_s {z : Str} : kT (.inr z) = .str z := rfl
theorem sgn_inj {a b : Nat} : ((⟨#[a]⟩ : Str) = ⟨#[b]⟩) = (a = b) := by
  apply propext
  exact ⟨fun h => by injection h with h; injection h with h; injection h, fun h => h ▸ rfl⟩
theorem vw_kT {S : Sto} {k : Key} : vw S (kT k) = kT k := by cases k <;> rfl
theorem beq_ft : (false == true) = false := rfl
theorem beq_tf : (true == false) = false := rfl
theorem pick_nilE {us mv ws : List Tr} : pick [] us mv ws = [] := rfl
theorem pick_0E {i : Nat} {l : List (Nat × Nat)} {us mv ws : List Tr} {x : Tr} (h : us[i]? = some x) : pick ((0, i) :: l) us mv ws = x :: pick l us mv ws := pick_0 h
theorem pick_1E {i : Nat} {l : List (Nat × Nat)} {us mv ws : List Tr} {x : Tr} (h : mv[i]? = some x) : pick ((1, i) :: l) us mv ws = x :: pick l us mv ws := pick_1 h
theorem pick_2E {i : Nat} {l : List (Nat × Nat)} {us mv ws : List Tr} {x : Tr} (h : ws[i]? = some x) : pick ((2, i) :: l) us mv ws = x :: pick l us mv ws := pick_2 h
theorem str4_i {i : Int} {z : Tr} : gStr4 [.int i] z = (i.natAbs.log2 < 1920 ∧ z = .str (Str.ofString (toString i))) := rfl
theorem str4_s {a : Str} {z : Tr} : gStr4 [.str a] z = (z = .str a) := rfl
theorem str4_b {b : Bool} {z : Tr} : gStr4 [.bl b] z = (z = .str (if b then Str.ofString "True" else Str.ofString "False")) := rfl
theorem str4_n {z : Tr} : gStr4 [.non] z = (z = .str (Str.ofString "None")) := rfl
theorem list3_l {xs : List Tr} {z : Tr} : gList3 [.lst xs] z = (z = .lst xs) := by show (∃ ys, some xs = some ys ∧ _) = _; simp
theorem list3_t {xs : List Tr} {z : Tr} : gList3 [.tup xs] z = (z = .lst xs) := by show (∃ ys, some xs = some ys ∧ _) = _; simp
theorem list3_c {ns : List Int} {z : Tr} : gList3 [.scr ns] z = (z = .lst (ns.map Tr.int)) := by show (∃ ys, some _ = some ys ∧ _) = _; simp
theorem list3_d {ks : List Key} {xs : List Tr} {z : Tr} : gList3 [.dic ks xs] z = (z = .lst (ks.map kT)) := by show (∃ ys, some _ = some ys ∧ _) = _; simp
theorem seqOf_l {xs : List Tr} : seqOf (.lst xs) = some xs := rfl
theorem seqOf_t {xs : List Tr} : seqOf (.tup xs) = some xs := rfl
theorem seqOf_c {ns : List Int} : seqOf (.scr ns) = some (ns.map Tr.int) := rfl
theorem seqOf_d {ks : List Key} {xs : List Tr} : seqOf (.dic ks xs) = some (ks.map kT) := rfl
theorem lenE0 : (([] : List Tr).length = 0) = True := eq_true rfl
theorem lenE1 {x0 : Tr} : (([x0] : List Tr).length = 1) = True := eq_true rfl
theorem lenE2 {x0 x1 : Tr} : (([x0, x1] : List Tr).length = 2) = True := eq_true rfl
theorem lenE3 {x0 x1 x2 : Tr} : (([x0, x1, x2] : List Tr).length = 3) = True := eq_true rfl
theorem lenE4 {x0 x1 x2 x3 : Tr} : (([x0, x1, x2, x3] : List Tr).length = 4) = True := eq_true rfl
theorem lenE5 {x0 x1 x2 x3 x4 : Tr} : (([x0, x1, x2, x3, x4] : List Tr).length = 5) = True := eq_true rfl
theorem lenE6 {x0 x1 x2 x3 x4 x5 : Tr} : (([x0, x1, x2, x3, x4, x5] : List Tr).length = 6) = True := eq_true rfl
theorem lenE7 {x0 x1 x2 x3 x4 x5 x6 : Tr} : (([x0, x1, x2, x3, x4, x5, x6] : List Tr).length = 7) = True := eq_true rfl
theorem lenE8 {x0 x1 x2 x3 x4 x5 x6 x7 : Tr} : (([x0, x1, x2, x3, x4, x5, x6, x7] : List Tr).length = 8) = True := eq_true rfl
theorem lenE9 {x0 x1 x2 x3 x4 x5 x6 x7 x8 : Tr} : (([x0, x1, x2, x3, x4, x5, x6, x7, x8] : List Tr).length = 9) = True := eq_true rfl
theorem lenE10 {x0 x1 x2 x3 x4 x5 x6 x7 x8 x9 : Tr} : (([x0, x1, x2, x3, x4, x5, x6, x7, x8, x9] : List Tr).length = 10) = True := eq_true rfl
theorem lenS0 : ([] : List Str).length = 0 := rfl
theorem lenS1 {x0 : Str} : ([x0] : List Str).length = 1 := rfl
theorem lenS2 {x0 x1 : Str} : ([x0, x1] : List Str).length = 2 := rfl
theorem lenS3 {x0 x1 x2 : Str} : ([x0, x1, x2] : List Str).length = 3 := rfl
theorem lenS4 {x0 x1 x2 x3 : Str} : ([x0, x1, x2, x3] : List Str).length = 4 := rfl
theorem lenS5 {x0 x1 x2 x3 x4 : Str} : ([x0, x1, x2, x3, x4] : List Str).length = 5 := rfl
theorem lenS6 {x0 x1 x2 x3 x4 x5 : Str} : ([x0, x1, x2, x3, x4, x5] : List Str).length = 6 := rfl
theorem lenS7 {x0 x1 x2 x3 x4 x5 x6 : Str} : ([x0, x1, x2, x3, x4, x5, x6] : List Str).length = 7 := rfl
theorem lenS8 {x0 x1 x2 x3 x4 x5 x6 x7 : Str} : ([x0, x1, x2, x3, x4, x5, x6, x7] : List Str).length = 8 := rfl
theorem lenS9 {x0 x1 x2 x3 x4 x5 x6 x7 x8 : Str} : ([x0, x1, x2, x3, x4, x5, x6, x7, x8] : List Str).length = 9 := rfl
theorem lenS10 {x0 x1 x2 x3 x4 x5 x6 x7 x8 x9 : Str} : ([x0, x1, x2, x3, x4, x5, x6, x7, x8, x9] : List Str).length = 10 := rfl
theorem mapS_nil : (([] : List (Str × Tr)).map fun x => x.2) = [] := rfl
theorem mapS_cons {q : Str × Tr} {l : List (Str × Tr)} : ((q :: l).map fun x => x.2) = q.2 :: l.map fun x => x.2 := rfl
theorem nil_l {n : Bool} {xs : List Tr} {z : Tr} : gNil n (.lst xs) (.lst []) z = (z = .bl (n ^^ xs.isEmpty)) := by
  refine propext ⟨fun ⟨_, ys, e, h⟩ => ?_, fun h => ⟨rfl, xs, rfl, h⟩⟩
  cases e
  exact h
theorem eqF_g {n : Bool} {x y z : Tr} {c : Bool} (h : eqF x y = some c) : gEq n x y z = (z = .bl (n ^^ c)) := by
  apply propext
  constructor
  · rintro (⟨d, e, q⟩ | ⟨e, _⟩)
    · rw [h] at e; cases e; exact q
    · rw [h] at e; cases e
  · exact fun q => .inl ⟨_, h, q⟩
theorem eq_nn {n : Bool} {z : Tr} : gEq n .non .non z = (z = .bl (n ^^ true)) := eqF_g rfl
theorem eq_ns {n : Bool} {a : Str} {z : Tr} : gEq n .non (.str a) z = (z = .bl (n ^^ false)) := eqF_g rfl
theorem eq_sn {n : Bool} {a : Str} {z : Tr} : gEq n (.str a) .non z = (z = .bl (n ^^ false)) := eqF_g rfl
theorem eq_ni {n : Bool} {a : Int} {z : Tr} : gEq n .non (.int a) z = (z = .bl (n ^^ false)) := eqF_g rfl
theorem eq_in {n : Bool} {a : Int} {z : Tr} : gEq n (.int a) .non z = (z = .bl (n ^^ false)) := eqF_g rfl
theorem eq_is {n : Bool} {a : Int} {c : Str} {z : Tr} : gEq n (.int a) (.str c) z = (z = .bl (n ^^ false)) := eqF_g rfl
theorem eq_si {n : Bool} {a : Str} {c : Int} {z : Tr} : gEq n (.str a) (.int c) z = (z = .bl (n ^^ false)) := eqF_g rfl
theorem popAt_1 {S : Sto} {xs as : List Tr} {i : Int} {z : Tr} : gPopAt S xs [.int i] as z = (0 ≤ i ∧ i < 2 ^ 63 ∧ xs[i.toNat]? = some z ∧ as = xs.eraseIdx i.toNat) := by
  refine propext ⟨fun ⟨j, e, h⟩ => ?_, fun h => ⟨i, rfl, h⟩⟩
  cases e
  exact h
theorem ix3_0 {a b c : Tr} : ixN [a, b, c].length 0 = some 0 := rfl
theorem ix3_1 {a b c : Tr} : ixN [a, b, c].length 1 = some 1 := rfl
theorem ix3_2 {a b c : Tr} : ixN [a, b, c].length 2 = some 2 := rfl
theorem q_qCell {Q : QV} {S : Sto} {xs : List Tr} : qCell Q (.lst xs) S = (∀ p, S p = none → Q (.ref p) (put S p (.lst xs))) := propext ⟨fun ⟨_, e, q⟩ => by cases e; exact q, fun q => ⟨_, rfl, q⟩⟩
theorem strp {s : Str} {z : Tr} : gStrip (.str s) [] z = (s.length ≤ sizeLine ∧ z = .str (Txt.strip s)) := rfl
theorem upr {s : Str} {z : Tr} : gUpper (.str s) [] z = (s.length ≤ 5592405 ∧ z = .str (Txt.upper s)) := rfl
theorem q_uCv {C : Addr} {t : Tr} {te : UE} {ρ : Rho} {S : Sto} {Q : QV} {X : QX} : uCv C t te ρ S Q X = te ρ S (fun x S1 => x = .ref C ∧ Q t S1) X := propext Iff.rfl
theorem q_rep4 {xs : List Tr} {k : Int} {z : Tr} : gRep (.lst xs) (.int k) z = (-(2 ^ 63) ≤ k ∧ k < 2 ^ 63 ∧ xs.length * k.toNat ≤ sizeLine ∧ z = .lst (List.replicate k.toNat xs).flatten) := rfl
theorem q_uAsgL {ps : List Pat} {te : UE} {D : UEnds} {X : XS} {ρ : Rho} {S : Sto} : uAsgL ps te D X ρ S = (te ρ S (fun x S1 => ∃ xs, asL (vw S1 x) = some xs ∧ ∃ ρ2, patsR ps xs ρ = some ρ2 ∧ D.nx ρ2 S1) (atR X ρ)) := propext Iff.rfl
theorem q_uPar3 {i j l : Nat} {ta : UA} {D : UEnds} {X : XS} {ρ : Rho} {S : Sto} : uPar3 i j l ta D X ρ S = (ta ρ S (fun xs S1 => ∃ x y z, xs = [x, y, z] ∧ D.nx (((ρ.set i (some x)).set j (some y)).set l (some z)) S1) (atR X ρ)) := propext Iff.rfl
theorem q_uCases0 {z : Str} {D : UEnds} {X : XS} {ρ : Rho} {S : Sto} : uCases [] z D X ρ S = D.nx ρ S := rfl
theorem q_uCases1 {c : List Str} {u : US} {cs : UCs} {z : Str} {D : UEnds} {X : XS} {ρ : Rho} {S : Sto} : uCases ((c, u) :: cs) z D X ρ S = (if z ∈ c then u D X ρ S else uCases cs z D X ρ S) := rfl

end KQ
namespace KQ
open PySem PySem.Spec PyProof.Rows L2 TL KB
/-! ### the source of draws: a dict of six -/
def srcKs : List Key := [.inr "cells", .inr "at", .inr "rest", .inr "seed", .inr "room", .inr "long"]
def srcT (ns : List Int) (at_ rest seed room long : Int) : Tr := .dic srcKs [.lst (ns.map Tr.int), .int at_, .int rest, .int seed, .int room, .int long]
theorem sk_nd : srcKs.Nodup := by decide +kernel
theorem sget_cells {x b c d e f : Tr} : kget (.inr (Str.ofString "cells")) srcKs [x, b, c, d, e, f] = some x := by
  simp [srcKs, kget, ofS_inj]
theorem sget_at {x b c d e f : Tr} : kget (.inr (Str.ofString "at")) srcKs [x, b, c, d, e, f] = some b := by
  simp [srcKs, kget, ofS_inj]
theorem sget_rest {x b c d e f : Tr} : kget (.inr (Str.ofString "rest")) srcKs [x, b, c, d, e, f] = some c := by
  simp [srcKs, kget, ofS_inj]
theorem sget_seed {x b c d e f : Tr} : kget (.inr (Str.ofString "seed")) srcKs [x, b, c, d, e, f] = some d := by
  simp [srcKs, kget, ofS_inj]
theorem sget_room {x b c d e f : Tr} : kget (.inr (Str.ofString "room")) srcKs [x, b, c, d, e, f] = some e := by
  simp [srcKs, kget, ofS_inj]
theorem sget_long {x b c d e f : Tr} : kget (.inr (Str.ofString "long")) srcKs [x, b, c, d, e, f] = some f := by
  simp [srcKs, kget, ofS_inj]
theorem sN {k : Key} (h : hasK k srcKs = true) : kputN k srcKs = srcKs := if_pos h
theorem shas_at : hasK (.inr (Str.ofString "at")) srcKs = true := by decide +kernel
theorem shas_rest : hasK (.inr (Str.ofString "rest")) srcKs = true := by decide +kernel
theorem shas_seed : hasK (.inr (Str.ofString "seed")) srcKs = true := by decide +kernel
theorem shas_room : hasK (.inr (Str.ofString "room")) srcKs = true := by decide +kernel
theorem shas_long : hasK (.inr (Str.ofString "long")) srcKs = true := by decide +kernel
theorem sput_at {x b c d e f y : Tr} : kputX (.inr (Str.ofString "at")) y srcKs [x, b, c, d, e, f] = [x, y, c, d, e, f] := by
  unfold kputX; rw [if_pos shas_at]; simp [srcKs, kmap, ofS_inj]
theorem sput_rest {x b c d e f y : Tr} : kputX (.inr (Str.ofString "rest")) y srcKs [x, b, c, d, e, f] = [x, b, y, d, e, f] := by
  unfold kputX; rw [if_pos shas_rest]; simp [srcKs, kmap, ofS_inj]
theorem sput_seed {x b c d e f y : Tr} : kputX (.inr (Str.ofString "seed")) y srcKs [x, b, c, d, e, f] = [x, b, c, y, e, f] := by
  unfold kputX; rw [if_pos shas_seed]; simp [srcKs, kmap, ofS_inj]
theorem sput_room {x b c d e f y : Tr} : kputX (.inr (Str.ofString "room")) y srcKs [x, b, c, d, e, f] = [x, b, c, d, y, f] := by
  unfold kputX; rw [if_pos shas_room]; simp [srcKs, kmap, ofS_inj]
theorem sput_long {x b c d e f y : Tr} : kputX (.inr (Str.ofString "long")) y srcKs [x, b, c, d, e, f] = [x, b, c, d, e, y] := by
  unfold kputX; rw [if_pos shas_long]; simp [srcKs, kmap, ofS_inj]
theorem sN_at : kputN (.inr (Str.ofString "at")) srcKs = srcKs := sN shas_at
theorem sN_rest : kputN (.inr (Str.ofString "rest")) srcKs = srcKs := sN shas_rest
theorem sN_seed : kputN (.inr (Str.ofString "seed")) srcKs = srcKs := sN shas_seed
theorem sN_room : kputN (.inr (Str.ofString "room")) srcKs = srcKs := sN shas_room
theorem sN_long : kputN (.inr (Str.ofString "long")) srcKs = srcKs := sN shas_long
theorem sk_len : (srcKs.length < sizeLine) = True := eq_true (by show 6 < sizeLine; decide)
theorem srcT_eq {ns : List Int} {a r s m l : Int} : srcT ns a r s m l = .dic srcKs [.lst (ns.map Tr.int), .int a, .int r, .int s, .int m, .int l] := rfl
theorem int_at {ns : List Int} {i : Int} (h0 : 0 ≤ i) (h1 : i < ns.length) : ∃ n, atI (ns.map Tr.int) i = some (.int n) := by
  obtain ⟨j, rfl⟩ := Int.eq_ofNat_of_zero_le h0
  have hj : j < ns.length := by omega
  exact ⟨ns[j], atI_nat (by rw [List.getElem?_map, List.getElem?_eq_getElem hj]; rfl)⟩
/-! ### loops by an invariant -/
theorem loop_inv {ok : Sto → Prop} {p : Pat} {tb : US} {D : UEnds} {X : XS} (xs : List Tr) (Pv : Nat → Rho → Sto → Prop)
    (hs : ∀ (i : Nat) (x : Tr) (ρ : Rho) (S : Sto) (N : QS), xs[i]? = some x → Pv i ρ S → (∀ ρ' S', Pv (i + 1) ρ' S' → N ρ' S') → ok S ∧ ∃ ρ2, patR p x ρ = some ρ2 ∧ tb { D with nx := N, ct := N, bk := D.nx } X ρ2 S)
    (he : ∀ ρ S, Pv xs.length ρ S → ok S ∧ D.nx ρ S) {ρ : Rho} {S : Sto} (h0 : Pv 0 ρ S) : uLoop ok p tb D X xs ρ S := by
  have key : ∀ (n i : Nat) (ρ : Rho) (S : Sto), i + n = xs.length → Pv i ρ S → uLoop ok p tb D X (xs.drop i) ρ S := by
    intro n
    induction n with
    | zero =>
      intro i ρ S e h
      have e' : i = xs.length := by omega
      subst e'
      rw [List.drop_length]
      exact he ρ S h
    | succ n ih =>
      intro i ρ S e h
      have hl : i < xs.length := by omega
      rw [List.drop_eq_getElem_cons hl]
      exact hs i _ ρ S _ (List.getElem?_eq_getElem hl) h fun ρ' S' h' => ih (i + 1) ρ' S' (by omega) h'
  exact key xs.length 0 ρ S (by omega) h0
theorem lc_inv {ok : Sto → Prop} {p : Pat} {tt : UT} {te : UE} {ρ : Rho} {Q : QV} (xs : List Tr) (Pv : Nat → List Tr → Sto → Prop)
    (hs : ∀ (i : Nat) (x : Tr) (acc : List Tr) (S : Sto) (N : List Tr → Sto → Prop), xs[i]? = some x → Pv i acc S → (∀ acc' S', Pv (i + 1) acc' S' → N acc' S') → ok S ∧ ∃ ρ2, patR p x ρ = some ρ2 ∧ tt ρ2 S (fun b S3 => if b = true then te ρ2 S3 (fun y S4 => acc.length < sizeLine ∧ N (acc ++ [y]) S4) X0 else N acc S3) X0)
    (he : ∀ acc S, Pv xs.length acc S → ok S ∧ Q (.lst acc) S) {S : Sto} (h0 : Pv 0 [] S) : uLcL ok p tt te ρ Q xs [] S := by
  have key : ∀ (n i : Nat) (acc : List Tr) (S : Sto), i + n = xs.length → Pv i acc S → uLcL ok p tt te ρ Q (xs.drop i) acc S := by
    intro n
    induction n with
    | zero =>
      intro i acc S e h
      have e' : i = xs.length := by omega
      subst e'
      rw [List.drop_length]
      exact he acc S h
    | succ n ih =>
      intro i acc S e h
      have hl : i < xs.length := by omega
      rw [List.drop_eq_getElem_cons hl]
      exact hs i _ acc S _ (List.getElem?_eq_getElem hl) h fun acc' S' h' => ih (i + 1) acc' S' (by omega) h'
  exact key xs.length 0 [] S (by omega) h0
theorem rng_at {n i : Nat} {x : Tr} (h : (rngT 0 n)[i]? = some x) : x = .int i ∧ i < n := by
  have hi : i < n := by
    by_cases z : i < n
    · exact z
    · rw [List.getElem?_eq_none (by rw [rngT_len]; omega)] at h; cases h
  rw [rngT_get n 0 i hi] at h
  cases h
  exact ⟨by rw [Int.zero_add], hi⟩
theorem szn {n : Nat} (h : n ≤ 100000) : n < sizeLine := KB.sizeN h
/-! ### sources -/
def SrcOk (c : Tr) : Prop := ∃ (ns : List Int) (at_ rest seed room long : Int), c = srcT ns at_ rest seed room long ∧ 0 ≤ at_ ∧ 0 ≤ rest
def roomOf : Tr → Int
  | .dic _ [_, _, _, _, .int r, _] => r
  | _ => 0
/-- d is the source c after some draws -/
structure Drw (c d : Tr) : Prop where
  ok : SrcOk d
  rm : roomOf d = roomOf c
theorem Drw.trans {c d e : Tr} (h : Drw c d) (g : Drw d e) : Drw c e := ⟨g.ok, g.rm.trans h.rm⟩
theorem Drw.refl {c : Tr} (h : SrcOk c) : Drw c c := ⟨h, rfl⟩
def sp_draw : TSp := fun xs S Q X => ∃ (a : Addr) (m : Int) (c : Tr), xs = [.ref a, .int m] ∧ S a = some c ∧ SrcOk c ∧ 0 < m ∧ m ≤ 1000000000000000000000000000000 ∧ ∀ (r : Int) (c' : Tr), 0 ≤ r → r < m → Drw c c' → Q (.int r) (put S a c')
theorem cdiv_ok {i m : Int} (h0 : 0 < m) (h1 : m ≤ 1000000000000000000000000000000) : CDivW i m := by
  refine ⟨h0, ?_⟩
  by_cases h : m.natAbs = 0
  · rw [h]; decide
  · exact (Nat.log2_lt h).mpr (Nat.lt_of_le_of_lt (show m.natAbs ≤ 1000000000000000000000000000000 by omega) (Nat.lt_of_lt_of_le (show 1000000000000000000000000000000 < 2 ^ 100 by decide) (Nat.pow_le_pow_right (by decide) (by decide))))
theorem draw_ok {S : Sto} {a : Addr} {c : Tr} {m : Int} {Q : QV} {X : QX} (hS : S a = some c) (hc : SrcOk c) (m0 : 0 < m) (m1 : m ≤ 1000000000000000000000000000000) (hq : ∀ (r : Int) (c' : Tr), 0 ≤ r → r < m → Drw c c' → Q (.int r) (put S a c')) : sp_draw [.ref a, .int m] S Q X := ⟨a, m, c, rfl, hS, hc, m0, m1, hq⟩
/-! ### a source of five -/
def srcKs5 : List Key := [.inr "cells", .inr "at", .inr "rest", .inr "seed", .inr "room"]
def srcT5 (ns : List Int) (at_ rest seed room : Int) : Tr := .dic srcKs5 [.lst (ns.map Tr.int), .int at_, .int rest, .int seed, .int room]
theorem s5get_cells {x b c d e : Tr} : kget (.inr (Str.ofString "cells")) srcKs5 [x, b, c, d, e] = some x := by simp [srcKs5, kget, ofS_inj]
theorem s5get_at {x b c d e : Tr} : kget (.inr (Str.ofString "at")) srcKs5 [x, b, c, d, e] = some b := by simp [srcKs5, kget, ofS_inj]
theorem s5get_rest {x b c d e : Tr} : kget (.inr (Str.ofString "rest")) srcKs5 [x, b, c, d, e] = some c := by simp [srcKs5, kget, ofS_inj]
theorem s5get_seed {x b c d e : Tr} : kget (.inr (Str.ofString "seed")) srcKs5 [x, b, c, d, e] = some d := by simp [srcKs5, kget, ofS_inj]
theorem s5get_room {x b c d e : Tr} : kget (.inr (Str.ofString "room")) srcKs5 [x, b, c, d, e] = some e := by simp [srcKs5, kget, ofS_inj]
theorem s5N {k : Key} (h : hasK k srcKs5 = true) : kputN k srcKs5 = srcKs5 := if_pos h
theorem s5has_at : hasK (.inr (Str.ofString "at")) srcKs5 = true := by decide +kernel
theorem s5has_rest : hasK (.inr (Str.ofString "rest")) srcKs5 = true := by decide +kernel
theorem s5has_seed : hasK (.inr (Str.ofString "seed")) srcKs5 = true := by decide +kernel
theorem s5put_at {x b c d e y : Tr} : kputX (.inr (Str.ofString "at")) y srcKs5 [x, b, c, d, e] = [x, y, c, d, e] := by
  unfold kputX; rw [if_pos s5has_at]; simp [srcKs5, kmap, ofS_inj]
theorem s5put_rest {x b c d e y : Tr} : kputX (.inr (Str.ofString "rest")) y srcKs5 [x, b, c, d, e] = [x, b, y, d, e] := by
  unfold kputX; rw [if_pos s5has_rest]; simp [srcKs5, kmap, ofS_inj]
theorem s5put_seed {x b c d e y : Tr} : kputX (.inr (Str.ofString "seed")) y srcKs5 [x, b, c, d, e] = [x, b, c, y, e] := by
  unfold kputX; rw [if_pos s5has_seed]; simp [srcKs5, kmap, ofS_inj]
theorem s5N_at : kputN (.inr (Str.ofString "at")) srcKs5 = srcKs5 := s5N s5has_at
theorem s5N_rest : kputN (.inr (Str.ofString "rest")) srcKs5 = srcKs5 := s5N s5has_rest
theorem s5N_seed : kputN (.inr (Str.ofString "seed")) srcKs5 = srcKs5 := s5N s5has_seed
theorem s5k_len : (srcKs5.length < sizeLine) = True := eq_true (by show 5 < sizeLine; decide)
theorem srcT5_eq {ns : List Int} {a r s m : Int} : srcT5 ns a r s m = .dic srcKs5 [.lst (ns.map Tr.int), .int a, .int r, .int s, .int m] := rfl
def IsNum (y : Tr) : Prop := ∃ n : Int, y = .int n ∧ n.natAbs < 10 ^ 30
def IsTxt (m : Nat) (y : Tr) : Prop := ∃ z : Str, y = .str z ∧ Pr z ∧ z.length ≤ m
def KOk : Key → Prop
  | .inl n => n.natAbs < 10 ^ 30
  | .inr z => Pr z ∧ z.length ≤ 300
def IsKey (y : Tr) : Prop := ∃ k, y = kT k ∧ KOk k
theorem IsNum.key {y : Tr} (h : IsNum y) : IsKey y := let ⟨n, e, h⟩ := h; ⟨.inl n, e, h⟩
theorem IsTxt.key {y : Tr} {m : Nat} (h : IsTxt m y) (hm : m ≤ 300) : IsKey y := let ⟨z, e, h, l⟩ := h; ⟨.inr z, e, h, Nat.le_trans l hm⟩
/-! ### a second cell beside the source -/
theorem sub_new {S : Sto} {p : Addr} {c : Tr} (h : S p = none) : Sub S (put S p c) := fun b d e => by rw [put_ne (fun z => by subst z; rw [h] at e; cases e)]; exact e
/-! ### keys -/
theorem kV_in (k : Key) (ks : List Key) : inV (kV k) (ks.map kV) = hasK k ks := by
  have e : ∀ a b : Key, eqV (kV a) (kV b) = decide (a = b) := fun a b => by
    cases a <;> cases b
    · show (_ == _) = _
      rw [Bool.eq_iff_iff, beq_iff_eq, decide_eq_true_eq, Sum.inl.injEq]
    · exact (decide_eq_false (fun h => nomatch h)).symm
    · exact (decide_eq_false (fun h => nomatch h)).symm
    · show (_ == _) = _
      rw [Bool.eq_iff_iff, beq_iff_eq, decide_eq_true_eq, Sum.inr.injEq]
  rw [Bool.eq_iff_iff, hasK_iff]
  unfold inV
  rw [List.any_eq_true]
  constructor
  · rintro ⟨y, hy, h⟩
    obtain ⟨j, hj, rfl⟩ := List.mem_map.mp hy
    rw [e, decide_eq_true_eq] at h
    exact h ▸ hj
  · intro h
    exact ⟨kV k, List.mem_map.mpr ⟨k, h, rfl⟩, by rw [e]; exact decide_eq_true rfl⟩
theorem nodup_put {k : Key} {ks : List Key} (h : ks.Nodup) (n : hasK k ks = false) : (ks ++ [k]).Nodup := by
  rw [List.nodup_append]
  refine ⟨h, by simp, fun a ha b hb z => ?_⟩
  rw [List.mem_singleton] at hb
  subst hb; subst z
  rw [hasK_iff.mpr ha] at n
  cases n
end KQ
namespace KQ
open PySem PySem.Spec PyProof.Rows L2 TL KB
/-! ### values, as models and as what the program makes of them -/
mutual
def mT : Val → Tr
  | .non => .non
  | .bl b => .bl b
  | .int n => .int n
  | .str z => .str z
  | .lst vs => .tup [.str "list", .lst (mTL vs)]
  | .tup vs => .tup [.str "tuple", .lst (mTL vs)]
  | .tab ks vs => .tup [.str "table", .lst (mTP ks vs)]
def mTL : List Val → List Tr
  | [] => []
  | v :: vs => mT v :: mTL vs
def mTP : List Key → List Val → List Tr
  | k :: ks, v :: vs => .tup [kT k, mT v] :: mTP ks vs
  | _, _ => []
end
mutual
def vT (C : Addr) : Val → Tr
  | .non => .non
  | .bl b => .bl b
  | .int n => .int n
  | .str z => .str z
  | .lst vs => .lst (vTL C vs)
  | .tup vs => .tup (vTL C vs)
  | .tab ks vs => .ins C ["held"] [.dic ks (vTL C vs)]
def vTL (C : Addr) : List Val → List Tr
  | [] => []
  | v :: vs => vT C v :: vTL C vs
end
mutual
def VOk : Val → Prop
  | .non => True
  | .bl _ => True
  | .int n => n.natAbs < 10 ^ 30
  | .str z => Pr z ∧ z.length ≤ 300
  | .lst vs => VOkL vs
  | .tup vs => VOkL vs
  | .tab ks vs => VOkL vs ∧ ks.length = vs.length ∧ (∀ k ∈ ks, KOk k) ∧ ks.Nodup
def VOkL : List Val → Prop
  | [] => True
  | v :: vs => VOk v ∧ VOkL vs
end
theorem VOkL.get : ∀ {vs : List Val} {i : Nat} {v : Val}, VOkL vs → vs[i]? = some v → VOk v
  | [], i, v, _, e => by simp at e
  | w :: vs, 0, v, h, e => (Option.some.inj e) ▸ h.1
  | w :: vs, i + 1, v, h, e => VOkL.get (vs := vs) (i := i) h.2 e
theorem vpL_snoc : ∀ (vs : List Val) (v : Val), vpartsL (vs ++ [v]) = vpartsL vs + vparts v
  | [], v => by simp [vpartsL]
  | w :: vs, v => by
    show vparts w + vpartsL (vs ++ [v]) = vparts w + vpartsL vs + vparts v
    rw [vpL_snoc vs v]; omega
/-! ### the same but for the order of tables -/
mutual
def Shf : Val → Val → Prop
  | .lst vs, w => ∃ ws, w = .lst ws ∧ ShfL vs ws
  | .tup vs, w => ∃ ws, w = .tup ws ∧ ShfL vs ws
  | .tab ks vs, w => ∃ js ws us, w = .tab js ws ∧ ShfL vs us ∧ js.length = ws.length ∧ (js.zip ws).Perm (ks.zip us)
  | v, w => w = v
def ShfL : List Val → List Val → Prop
  | [], ws => ws = []
  | v :: vs, ws => ∃ w us, ws = w :: us ∧ Shf v w ∧ ShfL vs us
end
theorem ShfL.len : ∀ {vs ws : List Val}, ShfL vs ws → ws.length = vs.length
  | [], _, h => by cases h; rfl
  | x :: vs, _, h => by
    obtain ⟨y, us, rfl, h1, h2⟩ := h
    exact congrArg (· + 1) h2.len
/-! ### tables as pairs -/
def pK (ps : List (Key × Val)) : List Key := ps.map (·.1)
def pV (ps : List (Key × Val)) : List Val := ps.map (·.2)
def tabV (ps : List (Key × Val)) : Val := .tab (pK ps) (pV ps)
/-- what the pairs of a law's table keep to -/
structure PsOk (n : Nat) (ps : List (Key × Val)) : Prop where
  nd : (pK ps).Nodup
  len : ps.length ≤ n
  ok : ∀ p ∈ ps, KOk p.1 ∧ VOk p.2 ∧ vdepth p.2 ≤ 3 ∧ vparts p.2 ≤ 100
theorem pv_bounds : ∀ {ps : List (Key × Val)}, (∀ p ∈ ps, KOk p.1 ∧ VOk p.2 ∧ vdepth p.2 ≤ 3 ∧ vparts p.2 ≤ 100) → VOkL (pV ps) ∧ vdepthL (pV ps) ≤ 3 ∧ vpartsL (pV ps) ≤ 100 * ps.length
  | [], _ => ⟨trivial, by decide, by decide⟩
  | p :: ps, h => by
    obtain ⟨h1, h2, h3⟩ := pv_bounds (ps := ps) fun q hq => h q (List.mem_cons_of_mem _ hq)
    obtain ⟨g1, g2, g3, g4⟩ := h p (List.mem_cons_self ..)
    refine ⟨⟨g2, h1⟩, ?_, ?_⟩
    · show max (vdepth p.2) (vdepthL (pV ps)) ≤ 3; omega
    · show vparts p.2 + vpartsL (pV ps) ≤ 100 * (ps.length + 1); omega
theorem PsOk.val {n : Nat} {ps : List (Key × Val)} (h : PsOk n ps) : VOk (tabV ps) ∧ vdepth (tabV ps) ≤ 4 ∧ vparts (tabV ps) ≤ 1 + 100 * n := by
  obtain ⟨h1, h2, h3⟩ := pv_bounds h.ok
  have := h.len
  refine ⟨⟨h1, by unfold pK pV; simp, fun k hk => ?_, h.nd⟩, ?_, ?_⟩
  · obtain ⟨p, hp, rfl⟩ := List.mem_map.mp hk
    exact (h.ok p hp).1
  · show 1 + vdepthL (pV ps) ≤ 4; omega
  · show 1 + vpartsL (pV ps) ≤ 1 + 100 * n; omega
def putP (k : Key) (v : Val) (ps : List (Key × Val)) : List (Key × Val) := if hasK k (pK ps) = true then ps.map (fun p => (p.1, if p.1 = k then v else p.2)) else ps ++ [(k, v)]
def takeP (k : Key) (ps : List (Key × Val)) : List (Key × Val) := ps.filter fun p => !decide (p.1 = k)
theorem PsOk.more {n m : Nat} {ps : List (Key × Val)} (h : PsOk n ps) (l : n ≤ m) : PsOk m ps := ⟨h.nd, Nat.le_trans h.len l, h.ok⟩
theorem PsOk.take {n : Nat} {k : Key} {ps : List (Key × Val)} (h : PsOk n ps) : PsOk n (takeP k ps) :=
  ⟨h.nd.sublist (List.Sublist.map _ List.filter_sublist), Nat.le_trans (List.length_filter_le ..) h.len, fun p hp => h.ok p (List.mem_filter.mp hp).1⟩
theorem PsOk.put {n : Nat} {k : Key} {v : Val} {ps : List (Key × Val)} (h : PsOk n ps) (hk : KOk k) (h1 : VOk v) (h2 : vdepth v ≤ 3) (h3 : vparts v ≤ 100) : PsOk (n + 1) (putP k v ps) := by
  unfold putP
  have := h.len
  split
  · refine ⟨?_, by rw [List.length_map]; omega, fun p hp => ?_⟩
    · have e : pK (ps.map (fun p => (p.1, if p.1 = k then v else p.2))) = pK ps := by unfold pK; rw [List.map_map]; rfl
      rw [e]; exact h.nd
    · obtain ⟨q, hq, rfl⟩ := List.mem_map.mp hp
      have g := h.ok q hq
      refine ⟨g.1, ?_⟩
      show VOk (if q.1 = k then v else q.2) ∧ vdepth (if q.1 = k then v else q.2) ≤ 3 ∧ vparts (if q.1 = k then v else q.2) ≤ 100
      split
      · exact ⟨h1, h2, h3⟩
      · exact g.2
  · rename_i hn
    refine ⟨?_, by rw [List.length_append]; show ps.length + 1 ≤ _; omega, fun p hp => ?_⟩
    · have e : pK (ps ++ [(k, v)]) = pK ps ++ [k] := by unfold pK; rw [List.map_append]; rfl
      rw [e]; exact nodup_put h.nd (by simpa using hn)
    · rcases List.mem_append.mp hp with hp | hp
      · exact h.ok p hp
      · rw [List.mem_singleton.mp hp]; exact ⟨hk, h1, h2, h3⟩
def lookP (k : Key) (qs : List (Key × Val)) : Option Val := (qs.find? fun q => decide (q.1 = k)).map (·.2)
def orP (ps qs : List (Key × Val)) : List (Key × Val) := ps.map (fun p => (p.1, (lookP p.1 qs).getD p.2)) ++ qs.filter fun q => !hasK q.1 (pK ps)
theorem pK_or {ps qs : List (Key × Val)} : pK (orP ps qs) = pK ps ++ pK (qs.filter fun q => !hasK q.1 (pK ps)) := by
  unfold orP pK
  rw [List.map_append, List.map_map]
  rfl
theorem has_filter {k : Key} {qs : List (Key × Val)} {f : Key → Bool} : hasK k (pK (qs.filter fun q => f q.1)) = (f k && hasK k (pK qs)) := by
  rw [Bool.eq_iff_iff, Bool.and_eq_true, hasK_iff, hasK_iff]
  constructor
  · intro h
    obtain ⟨q, hq, rfl⟩ := List.mem_map.mp h
    have := List.mem_filter.mp hq
    exact ⟨this.2, List.mem_map.mpr ⟨q, this.1, rfl⟩⟩
  · rintro ⟨h1, h2⟩
    obtain ⟨q, hq, rfl⟩ := List.mem_map.mp h2
    exact List.mem_map.mpr ⟨q, List.mem_filter.mpr ⟨hq, h1⟩, rfl⟩
theorem look_mem {k : Key} {v : Val} {qs : List (Key × Val)} (h : lookP k qs = some v) : (k, v) ∈ qs := by
  unfold lookP at h
  cases e : qs.find? fun q => decide (q.1 = k) with
  | none => rw [e] at h; cases h
  | some q =>
    rw [e] at h
    have h1 := List.mem_of_find?_eq_some e
    have h2 : q.1 = k := by have := List.find?_some e; simpa using this
    cases h
    rw [← h2]
    exact h1
theorem PsOk.filter {n : Nat} {f : Key × Val → Bool} {ps : List (Key × Val)} (h : PsOk n ps) : PsOk n (ps.filter f) :=
  ⟨h.nd.sublist (List.Sublist.map _ List.filter_sublist), Nat.le_trans (List.length_filter_le ..) h.len, fun p hp => h.ok p (List.mem_filter.mp hp).1⟩
theorem PsOk.or {n m : Nat} {ps qs : List (Key × Val)} (h : PsOk n ps) (g : PsOk m qs) : PsOk (n + m) (orP ps qs) := by
  have h1 := h.len
  have h2 := g.len
  refine ⟨?_, ?_, fun p hp => ?_⟩
  · rw [pK_or, List.nodup_append]
    refine ⟨h.nd, g.nd.sublist (List.Sublist.map _ List.filter_sublist), fun a ha b hb z => ?_⟩
    subst z
    have := hasK_iff.mpr hb
    rw [has_filter (f := fun j => !hasK j (pK ps)), hasK_iff.mpr ha] at this
    cases this
  · unfold orP
    rw [List.length_append, List.length_map]
    have := List.length_filter_le (fun q : Key × Val => !hasK q.1 (pK ps)) qs
    omega
  · unfold orP at hp
    rcases List.mem_append.mp hp with hp | hp
    · obtain ⟨q, hq, rfl⟩ := List.mem_map.mp hp
      have gq := h.ok q hq
      refine ⟨gq.1, ?_⟩
      show VOk ((lookP q.1 qs).getD q.2) ∧ vdepth ((lookP q.1 qs).getD q.2) ≤ 3 ∧ vparts ((lookP q.1 qs).getD q.2) ≤ 100
      cases e : lookP q.1 qs with
      | none => exact gq.2
      | some v => exact (g.ok _ (look_mem e)).2
    · exact g.ok p (List.mem_filter.mp hp).1
/-! ### models as data -/
theorem vw_vT {S : Sto} {C : Addr} {v : Val} : vw S (vT C v) = vT C v := by cases v <;> rfl
theorem vw_mT {S : Sto} {v : Val} : vw S (mT v) = mT v := by cases v <;> rfl
/-! ### two cells beside the source -/
section
variable {S : Sto} {a p q : Addr} {c x y d : Tr}
end
theorem src_ok {ns : List Int} {at_ rest seed room long : Int} (h0 : 0 ≤ at_) (h1 : 0 ≤ rest) : SrcOk (srcT ns at_ rest seed room long) := ⟨ns, at_, rest, seed, room, long, rfl, h0, h1⟩
end KQ
namespace KQ
open PySem PySem.Spec PyProof.Rows L2 TL KB
/-! ### what the laws compare: atoms, (word, items), ("table", pairs) -/
inductive Md where
  | non
  | bl (b : Bool)
  | int (n : Int)
  | str (z : Str)
  | row (t : Str) (xs : List Md)
  | tab (ks : List Key) (xs : List Md)
mutual
def DOk : Md → Prop
  | .row t xs => t ≠ "table" ∧ DOkL xs
  | .tab ks xs => ks.length = xs.length ∧ DOkL xs
  | _ => True
def DOkL : List Md → Prop
  | [] => True
  | x :: xs => DOk x ∧ DOkL xs
end
theorem DOkL.get : ∀ {xs : List Md} {i : Nat} {x : Md}, DOkL xs → xs[i]? = some x → DOk x
  | x :: xs, 0, _, h, e => by cases e; exact h.1
  | y :: xs, i + 1, x, h, e => by rw [List.getElem?_cons_succ] at e; exact DOkL.get h.2 e
/-! ### values as such things -/
end KQ
namespace KQ
open PySem PySem.Spec PyProof.Rows L2 TL KB
/-! ### sameness, in order (o) or not -/
theorem bool_iff {a b : Bool} (h : a = true ↔ b = true) : a = b := by cases a <;> cases b <;> simp_all
/-- the word for a value's kind -/
def kindS : Val → Str
  | .non => "null"
  | .bl true => "true"
  | .bl false => "false"
  | .int _ => "integer"
  | .str _ => "text"
  | .lst _ => "list"
  | .tup _ => "tuple"
  | .tab _ _ => "table"
/-! ### lists of values changed -/
theorem ShfL.get : ∀ {vs ws : List Val} {i : Nat} {v : Val}, ShfL vs ws → vs[i]? = some v → ∃ w, ws[i]? = some w ∧ Shf v w
  | [], _, i, v, _, h => by simp at h
  | x :: xs, _, 0, v, h, e => by obtain ⟨w, us, rfl, h1, h2⟩ := h; cases e; exact ⟨w, rfl, h1⟩
  | x :: xs, _, i + 1, v, h, e => by obtain ⟨w, us, rfl, h1, h2⟩ := h; rw [List.getElem?_cons_succ] at e ⊢; exact ShfL.get h2 e
theorem PsOk.cut {n : Nat} {ps : List (Key × Val)} (h : PsOk n ps) (i : Nat) : PsOk n (ps.take i) :=
  ⟨by unfold pK; rw [List.map_take]; exact h.nd.sublist (List.take_sublist _ _), Nat.le_trans (by rw [List.length_take]; omega) h.len, fun p hp => h.ok p (List.mem_of_mem_take hp)⟩
/-! ### lists of keys compared -/
end KQ
namespace KQ
open PySem PySem.Spec PyProof.Rows L2 TL KB
def kindsL : List Str := ["null", "true", "false", "integer", "text", "list", "tuple", "table"]
/-! models of the laws k35-k58 -/
mutual
def nM : Val → Tr
  | .non => .tup [.str "null", .non]
  | .bl true => .tup [.str "true", .non]
  | .bl false => .tup [.str "false", .non]
  | .int n => .tup [.str "integer", .int n]
  | .str z => .tup [.str "text", .str z]
  | .lst vs => .tup [.str "list", .lst (nML vs)]
  | .tup vs => .tup [.str "tuple", .lst (nML vs)]
  | .tab ks vs => .tup [.str "table", .lst (nMP ks vs)]
def nML : List Val → List Tr
  | [] => []
  | v :: vs => nM v :: nML vs
def nMP : List Key → List Val → List Tr
  | k :: ks, v :: vs => .tup [kT k, nM v] :: nMP ks vs
  | _, _ => []
end
theorem nML_map : ∀ vs : List Val, nML vs = vs.map nM
  | [] => rfl
  | v :: vs => by rw [nML, nML_map vs]; rfl
structure Hide (p : Prop) : Prop where
  go : p
theorem okL_memN : ∀ {vs : List Val}, (∀ v ∈ vs, VOk v) → VOkL vs
  | [], _ => trivial
  | v :: vs, h => ⟨h v (by simp), okL_memN fun w hw => h w (List.mem_cons_of_mem _ hw)⟩
theorem vdL_le {n : Nat} : ∀ {vs : List Val}, (∀ v ∈ vs, vdepth v ≤ n) → vdepthL vs ≤ n
  | [], _ => Nat.zero_le _
  | v :: vs, h => by
    have h1 := h v (by simp)
    have h2 := vdL_le (n := n) (vs := vs) fun w hw => h w (List.mem_cons_of_mem _ hw)
    show max (vdepth v) (vdepthL vs) ≤ n
    omega
/-! membership in written lists of texts, for the walk "vl" -/
theorem fl_cons {z : Str} {xs : List Tr} : flatTs (.str z :: xs) = (flatTs xs).map (V.str z :: ·) := by
  rw [flatTs]; cases flatTs xs <;> rfl
theorem fl_nil : flatTs [] = some [] := rfl
theorem iv_cons {z y : Str} {vs : List V} : inV (V.str z) (V.str y :: vs) = (decide (z = y) || inV (V.str z) vs) := by
  have e : ∀ ls : List V, inV (V.str z) (V.str y :: ls) = (eqV (V.str y) (V.str z) || inV (V.str z) ls) := fun ls => by
    unfold inV; rw [List.any_cons]
  rw [e]
  have k := kV_in (.inr z) [.inr y]
  rw [List.map_cons, List.map_nil] at k
  have k2 := e []
  have n : inV (V.str z) [] = false := rfl
  rw [n, Bool.or_false] at k2
  rw [← k2]
  refine congrArg (· || _) ((show inV (V.str z) [V.str y] = _ from k).trans ?_)
  unfold hasK
  rw [List.any_cons, List.any_nil, Bool.or_false]
  refine bool_iff ?_
  rw [decide_eq_true_eq, decide_eq_true_eq]
  exact ⟨fun h => (Sum.inr.inj h).symm, fun h => by rw [h]⟩
theorem iv_nil {v : V} : inV v [] = false := rfl
/-- what a model holds beside its kind -/
def payT : Val → Tr
  | .non => .non
  | .bl _ => .non
  | .int n => .int n
  | .str z => .str z
  | .lst vs => .lst (vs.map nM)
  | .tup vs => .lst (vs.map nM)
  | .tab ks vs => .lst (nMP ks vs)
theorem nM_eq (v : Val) : nM v = .tup [.str (kindS v), payT v] := by
  cases v with
  | bl b => cases b <;> rfl
  | lst vs => simp only [nM, nML_map]; rfl
  | tup vs => simp only [nM, nML_map]; rfl
  | _ => rfl
theorem vw_nM {S : Sto} {v : Val} : vw S (nM v) = .tup [.str (kindS v), payT v] := by rw [nM_eq]; rfl
theorem vw_payT {S : Sto} {v : Val} : vw S (payT v) = payT v := by cases v <;> rfl
/-- the place of a key -/
def kIx (k : Key) (ks : List Key) : Nat := ks.findIdx fun j => decide (j = k)
/-! ### conditions -/
inductive CT where
  | kind | equals | size | has | item | before | first | every | some | both | either | inv
inductive Cnd where
  | kind (z : Str)
  | equals (k : Key)
  | size (n : Int)
  | has (k : Key)
  | item (k : Key) (l : Str)
  | before (k j : Key)
  | first (l : Str)
  | every (l : Str)
  | some (l : Str)
  | both (a b : Cnd)
  | either (a b : Cnd)
  | inv (a : Cnd)
def Cnd.tag : Cnd → CT
  | .kind _ => .kind
  | .equals _ => .equals
  | .size _ => .size
  | .has _ => .has
  | .item _ _ => .item
  | .before _ _ => .before
  | .first _ => .first
  | .every _ => .every
  | .some _ => .some
  | .both _ _ => .both
  | .either _ _ => .either
  | .inv _ => .inv
/-- the classes of the conditions; those that a law's text lacks are none -/
structure CA where
  adr : CT → Option Addr
  seen : Addr
def CA.of (a : CA) (τ : CT) : Addr := (a.adr τ).getD 0
def cT (a : CA) : Cnd → Tr
  | .kind z => .ins (a.of .kind) ["name"] [.str z]
  | .equals k => .ins (a.of .equals) ["atom"] [kT k]
  | .size n => .ins (a.of .size) ["count"] [.int n]
  | .has k => .ins (a.of .has) ["key"] [kT k]
  | .item k l => .ins (a.of .item) ["key", "label"] [kT k, .str l]
  | .before k j => .ins (a.of .before) ["first", "second"] [kT k, kT j]
  | .first l => .ins (a.of .first) ["label"] [.str l]
  | .every l => .ins (a.of .every) ["label"] [.str l]
  | .some l => .ins (a.of .some) ["label"] [.str l]
  | .both c d => .ins (a.of .both) ["left", "right"] [cT a c, cT a d]
  | .either c d => .ins (a.of .either) ["left", "right"] [cT a c, cT a d]
  | .inv c => .ins (a.of .inv) ["inner"] [cT a c]
def LOk (l : Str) : Prop := Pr l ∧ l.length ≤ 300
def COk (a : CA) : Cnd → Prop
  | .kind z => (∃ C, a.adr .kind = Option.some C) ∧ z ∈ kindsL
  | .equals k => (∃ C, a.adr .equals = Option.some C) ∧ KOk k
  | .size n => (∃ C, a.adr .size = Option.some C) ∧ 0 ≤ n ∧ n ≤ 4
  | .has k => (∃ C, a.adr .has = Option.some C) ∧ KOk k
  | .item k l => (∃ C, a.adr .item = Option.some C) ∧ KOk k ∧ LOk l
  | .before k j => (∃ C, a.adr .before = Option.some C) ∧ KOk k ∧ KOk j
  | .first l => (∃ C, a.adr .first = Option.some C) ∧ LOk l
  | .every l => (∃ C, a.adr .every = Option.some C) ∧ LOk l
  | .some l => (∃ C, a.adr .some = Option.some C) ∧ LOk l
  | .both c d => (∃ C, a.adr .both = Option.some C) ∧ COk a c ∧ COk a d
  | .either c d => (∃ C, a.adr .either = Option.some C) ∧ COk a c ∧ COk a d
  | .inv c => (∃ C, a.adr .inv = Option.some C) ∧ COk a c
theorem COk.at {a : CA} {c : Cnd} (h : COk a c) : ∃ C, a.adr c.tag = Option.some C := by
  cases c <;> exact h.1
/-- the methods of the condition classes, by their tags -/
def vm (a : CA) (sp : CT → TSp) : Addr → TSp → Prop := fun C t => ∃ τ, a.adr τ = Option.some C ∧ t = sp τ
/-! what a condition sees of a value v whose items have the labels ls -/
def isBox : Val → Bool
  | .lst _ => true
  | .tup _ => true
  | .tab _ _ => true
  | _ => false
def vitems : Val → List Val
  | .lst vs => vs
  | .tup vs => vs
  | .tab _ vs => vs
  | _ => []
def atomT : Val → Tr
  | .non => .non
  | .bl b => .bl b
  | .int n => .int n
  | .str z => .str z
  | _ => .non
def keysT : Val → Tr
  | .tab ks _ => .lst (ks.map kT)
  | _ => .non
def labsT (v : Val) (ls : List Str) : Tr := if isBox v = true then .lst (ls.map .str) else .non
def seenT (a : CA) (v : Val) (ls : List Str) : Tr := .ins a.seen ["shape", "atom", "key_rows", "labels"] [.str (kindS v), atomT v, keysT v, labsT v ls]
theorem vw_seenT {S : Sto} {a : CA} {v : Val} {ls : List Str} : vw S (seenT a v ls) = .ins a.seen ["shape", "atom", "key_rows", "labels"] [.str (kindS v), atomT v, keysT v, labsT v ls] := rfl
def holds : Cnd → Val → List Str → Bool
  | .kind z, v, _ => decide (kindS v = z)
  | .equals k, v, _ => match v, k with
    | .int n, .inl m => decide (n = m)
    | .str z, .inr y => decide (z = y)
    | _, _ => false
  | .size n, v, ls => isBox v && decide ((ls.length : Int) = n)
  | .has k, v, _ => match v with
    | .tab ks _ => hasK k ks
    | _ => false
  | .item k l, v, ls => match v with
    | .tab ks _ => hasK k ks && decide (ls[kIx k ks]? = Option.some l)
    | _ => false
  | .before k j, v, _ => match v with
    | .tab ks _ => hasK k ks && hasK j ks && decide (kIx k ks < kIx j ks)
    | _ => false
  | .first l, v, ls => match v with
    | .lst _ => decide (ls.take 1 = [l])
    | .tup _ => decide (ls.take 1 = [l])
    | _ => false
  | .every l, v, ls => isBox v && ls.all fun x => decide (x = l)
  | .some l, v, ls => isBox v && decide (l ∈ ls)
  | .both c d, v, ls => holds c v ls && holds d v ls
  | .either c d, v, ls => holds c v ls || holds d v ls
  | .inv c, v, ls => !holds c v ls
/-- the first rule that holds -/
def ruleOf : List (Str × Cnd) → Val → List Str → Str
  | [], _, _ => "other"
  | (z, c) :: rs, v, ls => if holds c v ls = true then z else ruleOf rs v ls
mutual
def labV (rs : List (Str × Cnd)) : Val → Str
  | .lst vs => ruleOf rs (.lst vs) (labsV rs vs)
  | .tup vs => ruleOf rs (.tup vs) (labsV rs vs)
  | .tab ks vs => ruleOf rs (.tab ks vs) (labsV rs vs)
  | .non => ruleOf rs .non []
  | .bl b => ruleOf rs (.bl b) []
  | .int n => ruleOf rs (.int n) []
  | .str z => ruleOf rs (.str z) []
def labsV (rs : List (Str × Cnd)) : List Val → List Str
  | [] => []
  | v :: vs => labV rs v :: labsV rs vs
end
/-- whether a condition holds for a value, by the labels -/
def fitsV (rs : List (Str × Cnd)) (c : Cnd) (v : Val) : Bool := holds c v ((vitems v).map (labV rs))
/-! what a condition mentions -/
def leavesC : Cnd → List Cnd
  | .both a b => leavesC a ++ leavesC b
  | .either a b => leavesC a ++ leavesC b
  | .inv a => leavesC a
  | c => [c]
def ownK : Cnd → List Key
  | .has k => [k]
  | .item k _ => [k]
  | .before k j => [k, j]
  | _ => []
/-! the labels as an object -/
def namesL (rs : List (Str × Cnd)) : List Str := rs.map (·.1) ++ ([("other" : Str)] : List Str)
def labT (C : Addr) (a : CA) (rs : List (Str × Cnd)) : Tr := .ins C ["names", "rule_rows"] [.tup ((namesL rs).map .str), .lst (rs.map fun r => .tup [.str r.1, cT a r.2])]
theorem vw_labT {S : Sto} {C : Addr} {a : CA} {rs : List (Str × Cnd)} : vw S (labT C a rs) = .ins C ["names", "rule_rows"] [.tup ((namesL rs).map .str), .lst (rs.map fun r => .tup [.str r.1, cT a r.2])] := rfl
/-! ### more for conditions -/
/-! ### digits of keys -/
def keyS : Key → Str
  | .inl n => Str.ofString (toString n)
  | .inr z => z
/-! ### guards -/
def isInl : Key → Bool
  | .inl _ => true
  | .inr _ => false
def isNonV : Val → Bool
  | .non => true
  | _ => false
theorem keyS_ok {k : Key} (h : KOk k) : KOk (.inr (keyS k)) := by
  cases k with
  | inl n => exact ⟨pr_int n, Nat.le_trans (len_int (k := 30) (by decide) h) (by decide)⟩
  | inr z => exact h
/-! ### conditions that are drawn -/
def CndOk (PK : Key → Prop) (PL : Str → Prop) : Cnd → Prop
  | .kind z => z ∈ kindsL
  | .equals k => KOk k
  | .size n => 0 ≤ n ∧ n ≤ 4
  | .has k => PK k
  | .item k l => PK k ∧ PL l
  | .before k j => PK k ∧ PK j
  | .first l => PL l
  | .every l => PL l
  | .some l => PL l
  | .both c d => CndOk PK PL c ∧ CndOk PK PL d
  | .either c d => CndOk PK PL c ∧ CndOk PK PL d
  | .inv c => CndOk PK PL c
/-- a comprehension over range(n), n as many as the things of a list -/
theorem lc_ix {α : Type} {ok : Sto → Prop} {j : Nat} {te : UE} {ρ : Rho} {Q : QV} {S : Sto} (l : List α) (g : α → Tr) (hok : ok S) (hl : l.length ≤ 100000)
    (h : ∀ (i : Nat) (a : α), l[i]? = some a → ∀ (N1 : QV), N1 (g a) S → te (ρ.set j (some (.int i))) S N1 X0) (hq : Q (.lst (l.map g)) S) : uLcL ok (.nm j) uYes te ρ Q (rngT 0 l.length) [] S := by
  refine lc_inv _ (fun i acc S' => acc = (l.take i).map g ∧ S' = S) ?_ ?_ ⟨rfl, rfl⟩
  · rintro i x acc S' N hx ⟨rfl, rfl⟩ hN
    obtain ⟨rfl, hi⟩ := rng_at hx
    have ea : l[i]? = some l[i] := List.getElem?_eq_getElem hi
    have et : l.take (i + 1) = l.take i ++ [l[i]] := by rw [List.take_add_one, ea]; rfl
    refine ⟨hok, _, rfl, h i l[i] ea _ ⟨szn (by rw [List.length_map, List.length_take]; omega), hN _ _ ⟨by rw [et, List.map_append]; rfl, rfl⟩⟩⟩
  · rintro acc S' ⟨rfl, rfl⟩
    rw [rngT_len, List.take_of_length_le (Nat.le_refl _)]
    exact ⟨hok, hq⟩
/-! lists of lists of truths -/
theorem toDs_bls : ∀ l : List Bool, toDs (l.map Tr.bl) = some (l.map PyData.bool)
  | [] => rfl
  | b :: l => by
    have := toDs_bls l
    rw [List.map_cons, List.map_cons]
    unfold toDs
    rw [this]; rfl
theorem lay_bls : ∀ l : List Bool, PyData.canLayAll0 (l.map PyData.bool) = true
  | [] => rfl
  | b :: l => by rw [List.map_cons]; show (true && _) = true; rw [Bool.true_and]; exact lay_bls l
theorem dep_bls : ∀ l : List Bool, PyData.depthAll (l.map PyData.bool) ≤ 1
  | [] => by decide
  | b :: l => by
    have := dep_bls l
    rw [List.map_cons]; unfold PyData.depthAll
    have e : (PyData.bool b).depth ≤ 1 := by first | (show 1 ≤ 1; decide) | (show 0 ≤ 1; decide) | simp [PyData.depth]
    omega
theorem CndOk.imp {PK PK2 : Key → Prop} {PL PL2 : Str → Prop} (hk : ∀ k, PK k → PK2 k) (hl : ∀ l, PL l → PL2 l) : ∀ {c : Cnd}, CndOk PK PL c → CndOk PK2 PL2 c
  | .kind _, h => h
  | .equals _, h => h
  | .size _, h => h
  | .has _, h => hk _ h
  | .item _ _, h => ⟨hk _ h.1, hl _ h.2⟩
  | .before _ _, h => ⟨hk _ h.1, hk _ h.2⟩
  | .first _, h => hl _ h
  | .every _, h => hl _ h
  | .some _, h => hl _ h
  | .both _ _, h => ⟨h.1.imp hk hl, h.2.imp hk hl⟩
  | .either _ _, h => ⟨h.1.imp hk hl, h.2.imp hk hl⟩
  | .inv c, h => CndOk.imp (c := c) hk hl h
end KQ
namespace KQ
open PySem PySem.Spec PyProof.Rows L2 TL KB
/-! ### raw values -/
inductive RawV where
  | non
  | bl (b : Bool)
  | int (n : Int)
  | str (z : Str)
  | row (xs : List RawV)
  | tab (ns : List Str) (xs : List RawV)
mutual
def rdepth : RawV → Nat
  | .row xs => 1 + rdepthL xs
  | .tab _ xs => 1 + rdepthL xs
  | .non => 0
  | .bl _ => 0
  | .int _ => 0
  | .str _ => 0
def rdepthL : List RawV → Nat
  | [] => 0
  | x :: xs => max (rdepth x) (rdepthL xs)
end
mutual
def rparts : RawV → Nat
  | .row xs => 1 + rpartsL xs
  | .tab _ xs => 1 + rpartsL xs
  | .non => 1
  | .bl _ => 1
  | .int _ => 1
  | .str _ => 1
def rpartsL : List RawV → Nat
  | [] => 0
  | x :: xs => rparts x + rpartsL xs
end
mutual
def ROk : RawV → Prop
  | .row xs => ROkL xs
  | .tab ns xs => ROkL xs ∧ ns.length = xs.length ∧ ∀ n ∈ ns, LOk n
  | .non => True
  | .bl _ => True
  | .int n => n.natAbs < 10 ^ 30
  | .str z => Pr z ∧ z.length ≤ 300
def ROkL : List RawV → Prop
  | [] => True
  | x :: xs => ROk x ∧ ROkL xs
end
/-! ### the reader -/
structure Ro where
  same : Str
  dig : Str
  lists : Str
  nulls : Str
/-- the key of a string -/
def bkey (o : Ro) (z : Str) : Key := if o.dig = "number" ∧ digK (TL.tl z) = true then .inl ((PySem.intText? z).getD 0) else .inr z
/-- the entries that are kept, with their keys -/
def bfin (o : Ro) (ps : List (Key × Val)) : Val := tabV ((ps.filter fun q => !isNonV q.2 || decide (o.nulls = "keep")).map fun q => (bkey o (keyS q.1), q.2))
mutual
def bldR (o : Ro) : RawV → List Key → Except (List Key) Val
  | .non, _ => .ok .non
  | .bl b, _ => .ok (.bl b)
  | .int n, _ => .ok (.int n)
  | .str z, _ => .ok (.str z)
  | .row xs, p => match bldL o xs 0 p with
    | .error e => .error e
    | .ok vs => .ok (if o.lists = "tuple" then .tup vs else .lst vs)
  | .tab ns xs, p => match bldT o ns xs p [] with
    | .error e => .error e
    | .ok ps => .ok (bfin o ps)
def bldL (o : Ro) : List RawV → Nat → List Key → Except (List Key) (List Val)
  | [], _, _ => .ok []
  | x :: xs, i, p => match bldR o x (p ++ [.inl i]) with
    | .error e => .error e
    | .ok v => match bldL o xs (i + 1) p with
      | .error e => .error e
      | .ok vs => .ok (v :: vs)
def bldT (o : Ro) : List Str → List RawV → List Key → List (Key × Val) → Except (List Key) (List (Key × Val))
  | n :: ns, x :: xs, p, acc =>
    if hasK (.inr n) (pK acc) = true ∧ o.same = "refuse" then .error (p ++ [.inr n])
    else match bldR o x (p ++ [.inr n]) with
      | .error e => .error e
      | .ok v => bldT o ns xs p (if hasK (.inr n) (pK acc) = false ∨ o.same = "last" then putP (.inr n) v acc else acc)
  | _, _, _, acc => .ok acc
end
/-! ### what is built -/
theorem bkey_ok {o : Ro} {z : Str} (h : LOk z) : KOk (bkey o z) := by
  unfold bkey
  split
  · rename_i hd
    obtain ⟨n, e, _, _, e4⟩ := digK_int hd.2
    rw [e]
    exact e4
  · exact h
theorem bkey_inj {o : Ro} {z y : Str} (h : bkey o z = bkey o y) : z = y := by
  unfold bkey at h
  split at h
  · rename_i h1
    obtain ⟨n, e1, e2, _⟩ := digK_int h1.2
    split at h
    · rename_i h2
      obtain ⟨m, f1, f2, _⟩ := digK_int h2.2
      rw [e1, f1] at h
      have : n = m := Sum.inl.inj h
      rw [← e2, ← f2, this]
    · cases h
  · split at h
    · cases h
    · exact Sum.inr.inj h
theorem putP_keys {k : Key} {v : Val} {ps : List (Key × Val)} : pK (putP k v ps) = kputN k (pK ps) := by
  unfold putP kputN
  split
  · unfold pK; rw [List.map_map]; rfl
  · unfold pK; rw [List.map_append]; rfl
structure AccOk (d m : Nat) (ps : List (Key × Val)) : Prop where
  nd : (pK ps).Nodup
  nm : ∀ q ∈ ps, ∃ z, q.1 = .inr z ∧ LOk z
  ok : ∀ q ∈ ps, VOk q.2 ∧ vdepth q.2 ≤ d
  m : vpartsL (pV ps) ≤ m
theorem parts_map {k : Key} {v : Val} : ∀ (ps : List (Key × Val)), (pK ps).Nodup → vpartsL (pV (ps.map fun p => (p.1, if p.1 = k then v else p.2))) ≤ vpartsL (pV ps) + vparts v
  | [], _ => Nat.zero_le _
  | q :: ps, nd => by
    have nd' := List.nodup_cons.mp (show (q.1 :: pK ps).Nodup from nd)
    show vparts (if q.1 = k then v else q.2) + vpartsL (pV (ps.map _)) ≤ vparts q.2 + vpartsL (pV ps) + vparts v
    by_cases h : q.1 = k
    · have e : ps.map (fun p : Key × Val => (p.1, if p.1 = k then v else p.2)) = ps := by
        have : ∀ p ∈ ps, (fun p : Key × Val => (p.1, if p.1 = k then v else p.2)) p = id p := fun p hp => by
          have hn : p.1 ≠ k := fun z => nd'.1 (by rw [h, ← z]; exact List.mem_map.mpr ⟨p, hp, rfl⟩)
          show (p.1, if p.1 = k then v else p.2) = p
          rw [if_neg hn]
        rw [List.map_congr_left this, List.map_id]
      rw [e, if_pos h]; omega
    · have := parts_map (k := k) (v := v) ps nd'.2
      rw [if_neg h]; omega
theorem AccOk.put {d m : Nat} {ps : List (Key × Val)} {z : Str} {v : Val} (h : AccOk d m ps) (hz : LOk z) (hv : VOk v) {e n : Nat} (hd : d ≤ e) (hvd : vdepth v ≤ e) (hn : m + vparts v ≤ n) : AccOk e n (putP (.inr z) v ps) := by
  refine ⟨?_, fun q hq => ?_, fun q hq => ?_, ?_⟩
  · rw [putP_keys]
    unfold kputN
    split
    · exact h.nd
    · rename_i hh; exact nodup_put h.nd (by simpa using hh)
  · unfold putP at hq
    split at hq
    · obtain ⟨p, hp, rfl⟩ := List.mem_map.mp hq; exact h.nm p hp
    · rcases List.mem_append.mp hq with hq | hq
      · exact h.nm q hq
      · rw [List.mem_singleton.mp hq]; exact ⟨z, rfl, hz⟩
  · unfold putP at hq
    split at hq
    · obtain ⟨p, hp, rfl⟩ := List.mem_map.mp hq
      show VOk (if p.1 = _ then v else p.2) ∧ vdepth (if p.1 = _ then v else p.2) ≤ e
      split
      · exact ⟨hv, hvd⟩
      · exact ⟨(h.ok p hp).1, Nat.le_trans (h.ok p hp).2 hd⟩
    · rcases List.mem_append.mp hq with hq | hq
      · exact ⟨(h.ok q hq).1, Nat.le_trans (h.ok q hq).2 hd⟩
      · rw [List.mem_singleton.mp hq]; exact ⟨hv, hvd⟩
  · have := h.m
    unfold putP
    split
    · have := parts_map (k := .inr z) (v := v) ps h.nd; omega
    · have e : pV (ps ++ [((.inr z : Key), v)]) = pV ps ++ [v] := by unfold pV; rw [List.map_append]; rfl
      rw [e, vpL_snoc]; omega
theorem AccOk.up {d m e n : Nat} {ps : List (Key × Val)} (h : AccOk d m ps) (hd : d ≤ e) (hn : m ≤ n) : AccOk e n ps := ⟨h.nd, h.nm, fun q hq => ⟨(h.ok q hq).1, Nat.le_trans (h.ok q hq).2 hd⟩, Nat.le_trans h.m hn⟩
theorem AccOk.nil {d m : Nat} : AccOk d m [] := ⟨List.nodup_nil, (fun _ h => nomatch h), (fun _ h => nomatch h), Nat.zero_le _⟩
theorem parts_sub {f : Key × Val → Bool} {g : Key × Val → Key} : ∀ ps : List (Key × Val), vpartsL (pV ((ps.filter f).map fun q => (g q, q.2))) ≤ vpartsL (pV ps)
  | [] => Nat.le_refl _
  | q :: ps => by
    have ih := parts_sub (f := f) (g := g) ps
    show _ ≤ vparts q.2 + vpartsL (pV ps)
    rw [List.filter_cons]
    split
    · show vparts q.2 + vpartsL (pV ((ps.filter f).map _)) ≤ _; omega
    · omega
theorem bfin_ent {o : Ro} {d m : Nat} {ps : List (Key × Val)} (h : AccOk d m ps) :
    (pK ((ps.filter fun q => !isNonV q.2 || decide (o.nulls = "keep")).map fun q => (bkey o (keyS q.1), q.2))).Nodup ∧ VOk (bfin o ps) ∧ vdepth (bfin o ps) ≤ 1 + d ∧ vparts (bfin o ps) ≤ 1 + m := by
  have nd : (pK ((ps.filter fun q => !isNonV q.2 || decide (o.nulls = "keep")).map fun q => (bkey o (keyS q.1), q.2))).Nodup := by
    have e : pK ((ps.filter fun q => !isNonV q.2 || decide (o.nulls = "keep")).map fun q => (bkey o (keyS q.1), q.2)) = (pK (ps.filter fun q => !isNonV q.2 || decide (o.nulls = "keep"))).map fun k => bkey o (keyS k) := by
      unfold pK; rw [List.map_map, List.map_map]; rfl
    rw [e]
    have nd2 : (pK (ps.filter fun q => !isNonV q.2 || decide (o.nulls = "keep"))).Nodup := h.nd.sublist (List.Sublist.map _ List.filter_sublist)
    refine List.Pairwise.map _ (fun a b (x : (a ≠ b ∧ (∃ z, a = Sum.inr z)) ∧ ∃ z, b = Sum.inr z) y => ?_) (List.Pairwise.imp_of_mem (fun {a b} ha hb ne => ⟨⟨ne, ?_⟩, ?_⟩) nd2)
    · obtain ⟨⟨x1, z, rfl⟩, w, rfl⟩ := x
      exact x1 (by rw [show z = w from bkey_inj y])
    · obtain ⟨q, hq, e1⟩ := List.mem_map.mp ha
      obtain ⟨z, e, _⟩ := h.nm q (List.mem_filter.mp hq).1
      exact ⟨z, by rw [← e1]; exact e⟩
    · obtain ⟨q, hq, e1⟩ := List.mem_map.mp hb
      obtain ⟨z, e, _⟩ := h.nm q (List.mem_filter.mp hq).1
      exact ⟨z, by rw [← e1]; exact e⟩
  refine ⟨nd, ⟨okL_memN fun v hv => ?_, by unfold pK pV; simp only [List.length_map], fun k hk => ?_, nd⟩, Nat.add_le_add_left (vdL_le fun v hv => ?_) 1, Nat.add_le_add_left (Nat.le_trans (parts_sub ps) h.m) 1⟩
  · obtain ⟨q, hq, rfl⟩ := List.mem_map.mp hv
    obtain ⟨p, hp, rfl⟩ := List.mem_map.mp hq
    exact (h.ok p (List.mem_filter.mp hp).1).1
  · obtain ⟨q, hq, rfl⟩ := List.mem_map.mp hk
    obtain ⟨p, hp, rfl⟩ := List.mem_map.mp hq
    obtain ⟨z, e, hz⟩ := h.nm p (List.mem_filter.mp hp).1
    show KOk (bkey o (keyS p.1))
    rw [e]
    exact bkey_ok hz
  · obtain ⟨q, hq, rfl⟩ := List.mem_map.mp hv
    obtain ⟨p, hp, rfl⟩ := List.mem_map.mp hq
    exact (h.ok p (List.mem_filter.mp hp).1).2
mutual
theorem bldR_ok (o : Ro) : ∀ (w : RawV) (p : List Key) (v : Val), ROk w → bldR o w p = .ok v → VOk v ∧ vdepth v ≤ rdepth w ∧ vparts v ≤ rparts w
  | .non, p, v, h, e => by cases e; exact ⟨trivial, Nat.le_refl _, Nat.le_refl _⟩
  | .bl b, p, v, h, e => by cases e; exact ⟨trivial, Nat.le_refl _, Nat.le_refl _⟩
  | .int n, p, v, h, e => by cases e; exact ⟨h, Nat.le_refl _, Nat.le_refl _⟩
  | .str z, p, v, h, e => by cases e; exact ⟨h, Nat.le_refl _, Nat.le_refl _⟩
  | .row xs, p, v, h, e => by
    rw [bldR] at e
    split at e
    · cases e
    · rename_i vs hv
      obtain ⟨h1, h2, h3⟩ := bldL_ok o xs 0 p vs h hv
      cases e
      split
      · exact ⟨h1, Nat.add_le_add_left h2 1, Nat.add_le_add_left h3 1⟩
      · exact ⟨h1, Nat.add_le_add_left h2 1, Nat.add_le_add_left h3 1⟩
  | .tab ns xs, p, v, h, e => by
    rw [bldR] at e
    split at e
    · cases e
    · rename_i ps hps
      have a := bldT_ok o ns xs p [] ps (d := 0) (m := 0) h.2.2 h.1 .nil hps
      obtain ⟨_, h1, h2, h3⟩ := bfin_ent (o := o) a
      cases e
      refine ⟨h1, ?_, ?_⟩
      · show _ ≤ 1 + rdepthL xs
        have : max 0 (rdepthL xs) = rdepthL xs := Nat.max_eq_right (Nat.zero_le _)
        omega
      · show _ ≤ 1 + rpartsL xs
        omega
theorem bldL_ok (o : Ro) : ∀ (xs : List RawV) (i : Nat) (p : List Key) (vs : List Val), ROkL xs → bldL o xs i p = .ok vs → VOkL vs ∧ vdepthL vs ≤ rdepthL xs ∧ vpartsL vs ≤ rpartsL xs
  | [], i, p, vs, h, e => by cases e; exact ⟨trivial, Nat.le_refl _, Nat.le_refl _⟩
  | x :: xs, i, p, vs, h, e => by
    rw [bldL] at e
    split at e
    · cases e
    · rename_i v hv
      split at e
      · cases e
      · rename_i us hu
        obtain ⟨a1, a2, a3⟩ := bldR_ok o x _ v h.1 hv
        obtain ⟨b1, b2, b3⟩ := bldL_ok o xs _ p us h.2 hu
        cases e
        refine ⟨⟨a1, b1⟩, ?_, ?_⟩
        · show max (vdepth v) (vdepthL us) ≤ max (rdepth x) (rdepthL xs); omega
        · show vparts v + vpartsL us ≤ rparts x + rpartsL xs; omega
theorem bldT_ok (o : Ro) : ∀ (ns : List Str) (xs : List RawV) (p : List Key) (acc ps : List (Key × Val)) {d m : Nat}, (∀ n ∈ ns, LOk n) → ROkL xs → AccOk d m acc → bldT o ns xs p acc = .ok ps → AccOk (max d (rdepthL xs)) (m + rpartsL xs) ps
  | n :: ns, x :: xs, p, acc, ps, d, m, hn, h, a, e => by
    rw [bldT] at e
    split at e
    · cases e
    · split at e
      · cases e
      · rename_i v hv
        obtain ⟨a1, a2, a3⟩ := bldR_ok o x _ v h.1 hv
        have key : AccOk (max d (rdepth x)) (m + rparts x) (if hasK (.inr n) (pK acc) = false ∨ o.same = "last" then putP (.inr n) v acc else acc) := by
          split
          · exact a.put (hn n (by simp)) a1 (by omega) (by omega) (by omega)
          · exact a.up (by omega) (by omega)
        have := bldT_ok o ns xs p _ ps (fun z hz => hn z (List.mem_cons_of_mem _ hz)) h.2 key e
        refine this.up ?_ ?_
        · show max (max d (rdepth x)) (rdepthL xs) ≤ max d (max (rdepth x) (rdepthL xs)); omega
        · show m + rparts x + rpartsL xs ≤ m + (rparts x + rpartsL xs); omega
  | [], xs, p, acc, ps, d, m, hn, h, a, e => by
    rw [bldT] at e
    · cases e; exact a.up (by omega) (by omega)
    · intros; simp_all
  | n :: ns, [], p, acc, ps, d, m, hn, h, a, e => by
    rw [bldT] at e
    · cases e; exact a.up (by omega) (by omega)
    · intros; simp_all
end
theorem ROkL.get : ∀ {xs : List RawV} {i : Nat} {w : RawV}, ROkL xs → xs[i]? = some w → ROk w
  | x :: xs, 0, w, h, e => by cases e; exact h.1
  | x :: xs, i + 1, w, h, e => ROkL.get (xs := xs) (i := i) h.2 e
/-! ### flat raw values: leaves and rows of leaves -/
theorem keyS_lok {k : Key} (h : KOk k) : LOk (keyS k) := keyS_ok h
/-! ### raw values as data -/
/-! ### == of deeper data (the room of a level suffices for 200) -/
/-! ### the path of a refusal -/
end KQ
namespace KQ
open PySem PySem.Spec PyProof.Rows L2 TL KB
/-! ### the writer -/
structure Wo where
  keys : Str
  tups : Str
  nulls : Str
  dbl : Str
  order : Str
  longs : Str
structure WoOk (w : Wo) : Prop where
  keys : w.keys ∈ (["text", "skip", "refuse"] : List Str)
  tups : w.tups ∈ (["list", "refuse"] : List Str)
  nulls : w.nulls ∈ (["keep", "skip"] : List Str)
  dbl : w.dbl ∈ (["keep", "refuse"] : List Str)
  order : w.order ∈ (["keep", "rising"] : List Str)
  longs : w.longs ∈ (["keep", "text", "refuse"] : List Str)
def intS (n : Int) : Str := Str.ofString (toString n)
def longI (n : Int) : Bool := decide ((15 : Int) < ((intS (n.natAbs : Int)).length : Int))
abbrev WErr := Str × List Key
/-- an integer, written -/
def wI (o : Wo) (i : Int) (p : List Key) : Except WErr RawV :=
  if longI i = true ∧ ¬ o.longs = "keep" then (if o.longs = "refuse" then .error ("long", p) else .ok (.str (intS i))) else .ok (.int i)
/-- items, one after another -/
def wL (f : Val → List Key → Except WErr RawV) : List Val → Nat → List Key → Except WErr (List RawV)
  | [], _, _ => .ok []
  | v :: vs, i, p => match f v (p ++ [.inl i]) with
    | .error e => .error e
    | .ok w => match wL f vs (i + 1) p with
      | .error e => .error e
      | .ok ws => .ok (w :: ws)
/-- the entries that are written -/
def wK (o : Wo) : List (Key × Val) → Except Key (List (Key × Val))
  | [] => .ok []
  | q :: qs => if isNonV q.2 = true ∧ o.nulls = "skip" then wK o qs
    else if isInl q.1 = true ∧ o.keys = "refuse" then .error q.1
    else match wK o qs with
      | .error k => .error k
      | .ok rs => .ok (if isInl q.1 = false ∨ o.keys = "text" then q :: rs else rs)
def wS (o : Wo) (qs : List (Key × Val)) : List (Key × Val) := if o.order = "rising" then isort (fun a b => ltS (keyS a.1) (keyS b.1)) qs else qs
def wP (f : Val → List Key → Except WErr RawV) (o : Wo) : List (Key × Val) → List Key → List Str → Except WErr (List (Str × RawV))
  | [], _, _ => .ok []
  | q :: qs, p, acc => if keyS q.1 ∈ acc ∧ o.dbl = "refuse" then .error ("double", p ++ [q.1])
    else match f q.2 (p ++ [q.1]) with
      | .error e => .error e
      | .ok w => match wP f o qs p (acc ++ [keyS q.1]) with
        | .error e => .error e
        | .ok ws => .ok ((keyS q.1, w) :: ws)
def wT (f : Val → List Key → Except WErr RawV) (o : Wo) (ps : List (Key × Val)) (p : List Key) : Except WErr RawV :=
  match wK o ps with
  | .error k => .error ("key", p ++ [k])
  | .ok qs => match wP f o (wS o qs) p [] with
    | .error e => .error e
    | .ok ws => .ok (.tab (ws.map (·.1)) (ws.map (·.2)))
def wR (f : Val → List Key → Except WErr RawV) (vs : List Val) (p : List Key) : Except WErr RawV :=
  match wL f vs 0 p with
  | .error e => .error e
  | .ok ws => .ok (.row ws)
/-- the raw value of a value, or the first refusal; the number is above the depth -/
def wrt (o : Wo) : Nat → Val → List Key → Except WErr RawV
  | 0, _, _ => .ok .non
  | n + 1, v, p => match v with
    | .non => .ok .non
    | .bl b => .ok (.bl b)
    | .int i => wI o i p
    | .str z => .ok (.str z)
    | .lst vs => wR (wrt o n) vs p
    | .tup vs => if o.tups = "refuse" then .error ("tuple", p) else wR (wrt o n) vs p
    | .tab ks vs => wT (wrt o n) o (ks.zip vs) p
/-! ### what is written -/
theorem wdL_mem {v : Val} : ∀ {vs : List Val}, v ∈ vs → vdepth v ≤ vdepthL vs ∧ vparts v ≤ vpartsL vs
  | u :: vs, h => by
    show vdepth v ≤ max (vdepth u) (vdepthL vs) ∧ vparts v ≤ vparts u + vpartsL vs
    rcases List.mem_cons.mp h with rfl | h
    · exact ⟨Nat.le_max_left .., Nat.le_add_right ..⟩
    · have := wdL_mem h; omega
def WGood (d m : Nat) (f : Val → List Key → Except WErr RawV) : Prop := ∀ v p w, VOk v → vdepth v < d → f v p = .ok w → ROk w ∧ rdepth w ≤ vdepth v ∧ rparts w ≤ vparts v
theorem intS_ok {n : Int} (h : n.natAbs < 10 ^ 30) : LOk (intS n) := keyS_ok (k := .inl n) h
theorem wI_ok {o : Wo} {i : Int} {p : List Key} {w : RawV} (h : i.natAbs < 10 ^ 30) (e : wI o i p = .ok w) : ROk w ∧ rdepth w ≤ 0 ∧ rparts w ≤ 1 := by
  unfold wI at e
  split at e
  · split at e
    · cases e
    · cases e; exact ⟨intS_ok h, Nat.le_refl _, Nat.le_refl _⟩
  · cases e; exact ⟨h, Nat.le_refl _, Nat.le_refl _⟩
theorem wL_ok {d m : Nat} {f : Val → List Key → Except WErr RawV} (g : WGood d m f) : ∀ (vs : List Val) (i : Nat) (p : List Key) (ws : List RawV), VOkL vs → vdepthL vs < d → wL f vs i p = .ok ws → ROkL ws ∧ rdepthL ws ≤ vdepthL vs ∧ rpartsL ws ≤ vpartsL vs ∧ ws.length = vs.length
  | [], i, p, ws, _, _, e => by cases e; exact ⟨trivial, Nat.le_refl _, Nat.le_refl _, rfl⟩
  | v :: vs, i, p, ws, h, hd, e => by
    have hd : max (vdepth v) (vdepthL vs) < d := hd
    rw [wL] at e
    split at e
    · cases e
    · rename_i w hw
      split at e
      · cases e
      · rename_i us hu
        cases e
        obtain ⟨a1, a2, a3⟩ := g v _ w h.1 (by omega) hw
        obtain ⟨b1, b2, b3, b4⟩ := wL_ok g vs _ p us h.2 (by omega) hu
        refine ⟨⟨a1, b1⟩, ?_, ?_, by rw [List.length_cons, List.length_cons, b4]⟩
        · show max (rdepth w) (rdepthL us) ≤ max (vdepth v) (vdepthL vs); omega
        · show rparts w + rpartsL us ≤ vparts v + vpartsL vs; omega
theorem wK_sub {o : Wo} : ∀ (ps qs : List (Key × Val)), wK o ps = .ok qs → qs.Sublist ps
  | [], qs, e => by cases e; exact List.Sublist.refl _
  | q :: ps, qs, e => by
    rw [wK] at e
    split at e
    · exact (wK_sub ps qs e).cons _
    · split at e
      · cases e
      · split at e
        · cases e
        · rename_i rs hr
          have := wK_sub ps rs hr
          cases e
          split
          · exact this.cons_cons _
          · exact this.cons _
theorem wS_perm {o : Wo} {qs : List (Key × Val)} : (wS o qs).Perm qs := by
  unfold wS
  split
  · exact isort_perm _
  · exact List.Perm.refl _
theorem wP_ok {d m : Nat} {f : Val → List Key → Except WErr RawV} {o : Wo} (g : WGood d m f) : ∀ (qs : List (Key × Val)) (p : List Key) (acc : List Str) (ws : List (Str × RawV)), (∀ q ∈ qs, KOk q.1 ∧ VOk q.2 ∧ vdepth q.2 < d) → wP f o qs p acc = .ok ws →
    ROkL (ws.map (·.2)) ∧ (∀ n ∈ ws.map (·.1), LOk n) ∧ rdepthL (ws.map (·.2)) ≤ vdepthL (qs.map (·.2)) ∧ rpartsL (ws.map (·.2)) ≤ vpartsL (qs.map (·.2)) ∧ ws.length = qs.length
  | [], p, acc, ws, _, e => by cases e; exact ⟨trivial, (fun _ h => nomatch h), Nat.le_refl _, Nat.le_refl _, rfl⟩
  | q :: qs, p, acc, ws, h, e => by
    rw [wP] at e
    split at e
    · cases e
    · split at e
      · cases e
      · rename_i w hw
        split at e
        · cases e
        · rename_i us hu
          cases e
          obtain ⟨k1, k2, k3⟩ := h q (List.mem_cons_self ..)
          obtain ⟨a1, a2, a3⟩ := g q.2 _ w k2 k3 hw
          obtain ⟨b1, b2, b3, b4, b5⟩ := wP_ok g qs p _ us (fun x hx => h x (List.mem_cons_of_mem _ hx)) hu
          refine ⟨⟨a1, b1⟩, fun n hn => ?_, ?_, ?_, by rw [List.length_cons, List.length_cons, b5]⟩
          · rw [List.map_cons] at hn
            rcases List.mem_cons.mp hn with rfl | hn
            · exact keyS_lok k1
            · exact b2 n hn
          · show max (rdepth w) (rdepthL (us.map (·.2))) ≤ max (vdepth q.2) (vdepthL (qs.map (·.2))); omega
          · show rparts w + rpartsL (us.map (·.2)) ≤ vparts q.2 + vpartsL (qs.map (·.2)); omega
theorem wpL_perm {vs ws : List Val} (h : vs.Perm ws) : vpartsL vs = vpartsL ws ∧ vdepthL vs = vdepthL ws := by
  induction h with
  | nil => exact ⟨rfl, rfl⟩
  | cons x _ ih => exact ⟨congrArg (vparts x + ·) ih.1, congrArg (max (vdepth x) ·) ih.2⟩
  | swap x y l => exact ⟨by show vparts y + (vparts x + vpartsL l) = vparts x + (vparts y + vpartsL l); omega, by show max (vdepth y) (max (vdepth x) (vdepthL l)) = max (vdepth x) (max (vdepth y) (vdepthL l)); omega⟩
  | trans _ _ a b => exact ⟨a.1.trans b.1, a.2.trans b.2⟩
theorem wpL_sub {vs ws : List Val} (h : vs.Sublist ws) : vpartsL vs ≤ vpartsL ws ∧ vdepthL vs ≤ vdepthL ws := by
  induction h with
  | slnil => exact ⟨Nat.le_refl _, Nat.le_refl _⟩
  | cons x _ ih => exact ⟨by show _ ≤ vparts x + _; omega, by show _ ≤ max (vdepth x) _; omega⟩
  | cons_cons x _ ih => exact ⟨Nat.add_le_add_left ih.1 _, by show max (vdepth x) _ ≤ max (vdepth x) _; omega⟩
/-- the entries of a table, kept and in order -/
theorem wKS {o : Wo} {ks : List Key} {vs : List Val} {qs : List (Key × Val)} (l : ks.length = vs.length) (ok : VOkL vs) (ok2 : ∀ k ∈ ks, KOk k) (e : wK o (ks.zip vs) = .ok qs) :
    (∀ q ∈ wS o qs, KOk q.1 ∧ VOk q.2 ∧ vdepth q.2 ≤ vdepthL vs ∧ vparts q.2 ≤ vpartsL vs) ∧ vdepthL ((wS o qs).map (·.2)) ≤ vdepthL vs ∧ vpartsL ((wS o qs).map (·.2)) ≤ vpartsL vs ∧ (wS o qs).length ≤ ks.length := by
  have s := wK_sub _ _ e
  have p := wS_perm (o := o) (qs := qs)
  have z : (ks.zip vs).map (·.2) = vs := List.map_snd_zip (by omega)
  have s2 := wpL_sub (s.map (·.2))
  have p2 := wpL_perm (p.map (·.2))
  rw [z] at s2
  refine ⟨fun q hq => ?_, by omega, by omega, by rw [p.length_eq]; have := s.length_le; rw [List.length_zip] at this; omega⟩
  have m := s.subset (p.mem_iff.mp hq)
  have m2 := List.of_mem_zip m
  obtain ⟨i, hi⟩ := List.mem_iff_getElem?.mp m2.2
  exact ⟨ok2 _ m2.1, VOkL.get ok hi, (wdL_mem m2.2).1, (wdL_mem m2.2).2⟩
theorem wrt_ok (o : Wo) : ∀ n, WGood n 0 (wrt o n)
  | 0 => fun v p w _ h _ => absurd h (Nat.not_lt_zero _)
  | n + 1 => fun v p w h hd e => by
    have row : ∀ vs, VOkL vs → 1 + vdepthL vs < n + 1 → wR (wrt o n) vs p = .ok w → ROk w ∧ rdepth w ≤ 1 + vdepthL vs ∧ rparts w ≤ 1 + vpartsL vs := fun vs ov dv e => by
      unfold wR at e
      split at e
      · cases e
      · rename_i ws hw
        obtain ⟨a1, a2, a3, _⟩ := wL_ok (wrt_ok o n) vs 0 p ws ov (by omega) hw
        cases e
        exact ⟨a1, Nat.add_le_add_left a2 1, Nat.add_le_add_left a3 1⟩
    cases v with
    | non => cases e; exact ⟨trivial, Nat.le_refl _, Nat.le_refl _⟩
    | bl b => cases e; exact ⟨trivial, Nat.le_refl _, Nat.le_refl _⟩
    | str z => cases e; exact ⟨h, Nat.le_refl _, Nat.le_refl _⟩
    | int i => exact wI_ok h e
    | lst vs => exact row vs h hd e
    | tup vs =>
      rw [wrt] at e
      try dsimp only at e
      split at e
      · cases e
      · exact row vs h hd e
    | tab ks vs =>
      have hd : 1 + vdepthL vs < n + 1 := hd
      rw [wrt] at e
      try dsimp only at e
      unfold wT at e
      split at e
      · cases e
      · rename_i qs hq
        obtain ⟨k1, k2, k3, k4⟩ := wKS (o := o) h.2.1 h.1 h.2.2.1 hq
        split at e
        · cases e
        · rename_i ws hw
          obtain ⟨a1, a2, a3, a4, a5⟩ := wP_ok (wrt_ok o n) _ p [] ws (fun q hq => ⟨(k1 q hq).1, (k1 q hq).2.1, by have := (k1 q hq).2.2.1; omega⟩) hw
          cases e
          exact ⟨⟨a1, by rw [List.length_map, List.length_map], a2⟩, Nat.add_le_add_left (Nat.le_trans a3 k2) 1, Nat.add_le_add_left (Nat.le_trans a4 k3) 1⟩
/-! ### refusals -/
/-! ### values without tables -/
end KQ
namespace KQ
open PySem PySem.Spec PyProof.Rows L2 TL KB
/-! ### mending what is refused -/
/-! ### how much can be refused -/
end KQ
namespace KQ
open PySem PySem.Spec PyProof.Rows L2 TL KB
/-! ### steps and programs -/
def ordK : Cnd → List Key
  | .before k j => [k, j]
  | _ => []
def askL : Cnd → List Str
  | .every l => [l]
  | .some l => [l]
  | _ => []
inductive Stp where
  | put (k : Key) (v : Val)
  | drop (k : Key)
  | carry
  | stop (z : Str) (c : Cnd)
def stpL (a : CA) (D : Addr) : Stp → List Tr
  | .put k v => [.str "put", kT k, vT D v]
  | .drop k => [.str "drop", kT k]
  | .carry => [.str "carry"]
  | .stop z c => [.str "stop", .str z, cT a c]
def stpT (a : CA) (D : Addr) (s : Stp) : Tr := .tup (stpL a D s)
def isCar : Stp → Bool
  | .carry => true
  | _ => false
def isEd : Stp → Bool
  | .put _ _ => true
  | .drop _ => true
  | _ => false
def edK : Stp → Key
  | .put k _ => k
  | .drop k => k
  | _ => .inl 0
def stopLs : Stp → List Cnd
  | .stop _ c => leavesC c
  | _ => []
def carN (ss : List Stp) : Nat := (ss.filter isCar).length
def progT (C L : Addr) (a : CA) (D : Addr) (rs : List (Str × Cnd)) (ss : List Stp) : Tr := .ins C ["carries", "labels", "steps"] [.int (carN ss : Nat), labT L a rs, .lst (ss.map (stpT a D))]
end KQ
namespace KQ
open PySem PySem.Spec PyProof.Rows L2 TL KB
/-! ### the laws' own programs: leaves and rows -/
inductive Rw where
  | carry
  | ed (b : Bool) (k : Key)
  | stop (cs : List Cnd)
def rwC : Rw → List Cnd
  | .stop cs => cs
  | _ => []
def rwCar : Rw → Bool
  | .carry => true
  | _ => false
def rwEd : Rw → Bool
  | .ed _ _ => true
  | _ => false
def rwK : Rw → Key
  | .ed _ k => k
  | _ => .inl 0
def RwS : Rw → Stp → Prop
  | .carry, .carry => True
  | .ed true k, .put j v => j = k
  | .ed false k, .drop j => j = k
  | .stop cs, .stop _ c => leavesC c = cs
  | _, _ => False
/-- the steps that are made of the rows -/
inductive RwsS : List Rw → List Stp → Prop
  | nil : RwsS [] []
  | cons {w : Rw} {s : Stp} {ws : List Rw} {ss : List Stp} : RwS w s → RwsS ws ss → RwsS (w :: ws) (s :: ss)
theorem RwsS.len {ws : List Rw} {ss : List Stp} (h : RwsS ws ss) : ws.length = ss.length := by induction h <;> simp_all
theorem RwS.car {w : Rw} {s : Stp} (a : RwS w s) : rwCar w = isCar s := by
  cases w with
  | ed b k => cases b <;> cases s <;> first | exact a.elim | rfl
  | _ => cases s <;> first | exact a.elim | rfl
theorem RwS.ed {w : Rw} {s : Stp} (a : RwS w s) : rwEd w = isEd s ∧ (rwEd w = true → rwK w = edK s) := by
  cases w with
  | ed b k => cases b <;> cases s <;> first | exact a.elim | exact ⟨rfl, fun _ => (show _ = _ from a).symm⟩
  | _ => cases s <;> first | exact a.elim | exact ⟨rfl, fun h => nomatch h⟩
theorem RwS.lf {w : Rw} {s : Stp} (a : RwS w s) : rwC w = stopLs s := by
  cases w with
  | ed b k => cases b <;> cases s <;> first | exact a.elim | rfl
  | carry => cases s <;> first | exact a.elim | rfl
  | stop cs => cases s <;> first | exact a.elim | exact (show _ = _ from a).symm
theorem RwsS.car : ∀ {ws : List Rw} {ss : List Stp}, RwsS ws ss → (ws.filter rwCar).length = carN ss
  | _, _, .nil => rfl
  | _, _, .cons (w := w) (s := s) a h => by
    have ih := h.car
    unfold carN at ih ⊢
    rw [List.filter_cons, List.filter_cons, a.car]
    cases isCar s
    · exact ih
    · exact congrArg (· + 1) ih
end KQ
namespace KQ
open PySem PySem.Spec PyProof.Rows L2 TL KB
/-! ### runs -/
inductive Out where
  | ans (z : Str)
  | failed
  | refused
  | endd
def outR : Out → Tr
  | .ans z => .tup [.str "answer", .str z]
  | .failed => .tup [.str "failed"]
  | .refused => .tup [.str "refused"]
  | .endd => .tup [.str "end"]
def edP : Stp → List (Key × Val) → List (Key × Val)
  | .put k x, ps => putP k x ps
  | .drop k, ps => takeP k ps
  | _, ps => ps
def editV (s : Stp) (ks : List Key) (vs : List Val) : Val := tabV (edP s (ks.zip vs))
/-- one step: none where it ends there with this outcome -/
def stepV (rs : List (Str × Cnd)) (cy : Nat → Val → Option Val) (s : Stp) (at_ : Nat) (v : Val) : Out ⊕ (Option Val) := match s with
  | .stop z c => if fitsV rs c v = true then .inl (.ans z) else .inr none
  | .carry => match cy at_ v with
    | none => .inl .refused
    | some w => .inr (some w)
  | .put k x => match v with
    | .tab ks vs => .inr (some (editV (.put k x) ks vs))
    | _ => .inl .failed
  | .drop k => match v with
    | .tab ks vs => .inr (some (editV (.drop k) ks vs))
    | _ => .inl .failed
def doneV (rs : List (Str × Cnd)) (cy : Nat → Val → Option Val) : List Stp → Nat → Val → List Val × Out
  | [], _, _ => ([], .endd)
  | s :: ss, i, v => match stepV rs cy s i v with
    | .inl o => ([], o)
    | .inr none => doneV rs cy ss i v
    | .inr (some w) => (w :: (doneV rs cy ss (if isCar s then i + 1 else i) w).1, (doneV rs cy ss (if isCar s then i + 1 else i) w).2)
structure VBd (d p : Nat) (v : Val) : Prop where
  ok : VOk v
  dep : vdepth v ≤ d
  par : vparts v ≤ p
theorem VBd.more {d p e q : Nat} {v : Val} (h : VBd d p v) (h1 : d ≤ e) (h2 : p ≤ q) : VBd e q v := ⟨h.ok, Nat.le_trans h.dep h1, Nat.le_trans h.par h2⟩
/-- an object of a run; the passages as trees -/
def runT (R C L : Addr) (a : CA) (D : Addr) (rs : List (Str × Cnd)) (ss : List Stp) (pas : List Tr) : Tr := .ins R ["program", "passages"] [progT C L a D rs ss, .lst pas]
theorem vw_runT {S : Sto} {R C L D : Addr} {a : CA} {rs : List (Str × Cnd)} {ss : List Stp} {pas : List Tr} : vw S (runT R C L a D rs ss pas) = .ins R ["program", "passages"] [progT C L a D rs ss, .lst pas] := rfl
theorem vw_progT {S : Sto} {C L D : Addr} {a : CA} {rs : List (Str × Cnd)} {ss : List Stp} : vw S (progT C L a D rs ss) = .ins C ["carries", "labels", "steps"] [.int (carN ss : Nat), labT L a rs, .lst (ss.map (stpT a D))] := rfl
/-- where a run stands: the values told so far lead to the whole -/
structure DnAt (rs : List (Str × Cnd)) (cy : Nat → Val → Option Val) (ss : List Stp) (v0 : Val) (i at_ : Nat) (acc : List Val) (v : Val) : Prop where
  eq : doneV rs cy ss 0 v0 = (acc ++ (doneV rs cy (ss.drop i) at_ v).1, (doneV rs cy (ss.drop i) at_ v).2)
  at_ : at_ = carN (ss.take i)
theorem DnAt.zero {rs : List (Str × Cnd)} {cy : Nat → Val → Option Val} {ss : List Stp} {v : Val} : DnAt rs cy ss v 0 0 [] v := ⟨rfl, rfl⟩
section
variable {rs : List (Str × Cnd)} {cy : Nat → Val → Option Val} {ss : List Stp} {v0 v w : Val} {i at_ : Nat} {acc : List Val} {s : Stp} {o : Out}
theorem DnAt.last (h : DnAt rs cy ss v0 i at_ acc v) (hs : ss[i]? = some s) (e : stepV rs cy s at_ v = .inl o) : doneV rs cy ss 0 v0 = (acc, o) := by
  obtain ⟨hi, es⟩ := List.getElem?_eq_some_iff.mp hs
  rw [h.eq, List.drop_eq_getElem_cons hi, es, doneV, e, List.append_nil]
theorem DnAt.stay (h : DnAt rs cy ss v0 i at_ acc v) (hs : ss[i]? = some s) (c : isCar s = false) (e : stepV rs cy s at_ v = .inr none) : DnAt rs cy ss v0 (i + 1) at_ acc v := by
  obtain ⟨hi, es⟩ := List.getElem?_eq_some_iff.mp hs
  refine ⟨?_, ?_⟩
  · rw [h.eq, List.drop_eq_getElem_cons hi, es, doneV, e]
  · rw [h.at_, List.take_add_one, hs]; unfold carN; rw [List.filter_append]; simp [c]
theorem DnAt.go (h : DnAt rs cy ss v0 i at_ acc v) (hs : ss[i]? = some s) (e : stepV rs cy s at_ v = .inr (some w)) : DnAt rs cy ss v0 (i + 1) (if isCar s then at_ + 1 else at_) (acc ++ [w]) w := by
  obtain ⟨hi, es⟩ := List.getElem?_eq_some_iff.mp hs
  refine ⟨?_, ?_⟩
  · rw [h.eq, List.drop_eq_getElem_cons hi, es, doneV, e]; simp
  · rw [h.at_, List.take_add_one, hs]; unfold carN; rw [List.filter_append]
    cases c : isCar s <;> simp [c]
theorem DnAt.fin (h : DnAt rs cy ss v0 ss.length at_ acc v) : doneV rs cy ss 0 v0 = (acc, .endd) := by
  rw [h.eq, List.drop_length, doneV, List.append_nil]
end
/-! ### the laws' models as data -/
theorem self_eq {t : Tr} {d : PyData} {n : Bool} (e : toD t = some d) (h : PyData.canLay0 d = true) (hd : PyData.depth d ≤ 64) (g : eqF t t = none) : gEq n t t (.bl (n ^^ true)) := by
  have s : SeqAt.shaped d = true := by
    show (PyData.canLay0 d && decide (PyData.depth d ≤ 64)) = true
    rw [h, decide_eq_true hd]; rfl
  refine .inr ⟨g, d, d, e, e, s, s, ?_⟩
  rw [SeqAt.eqv_refl _ h]
theorem vw_outR {S : Sto} {o : Out} : vw S (outR o) = outR o := by cases o <;> rfl
/-! ### conditions that keep to two keys in order and two labels that are counted -/
def Nar (ks : List Key) (ls : List Str) (c : Cnd) : Prop := ∀ d ∈ leavesC c, (∀ k ∈ ordK d, k ∈ ks.take 2) ∧ ∀ l ∈ askL d, l ∈ ls.drop (ls.length - 2)
theorem Nar.both {ks : List Key} {ls : List Str} {c d : Cnd} (h : Nar ks ls c) (g : Nar ks ls d) : Nar ks ls (.both c d) := fun e he => by
  rcases List.mem_append.mp (show e ∈ leavesC c ++ leavesC d from he) with he | he
  · exact h e he
  · exact g e he
theorem Nar.either {ks : List Key} {ls : List Str} {c d : Cnd} (h : Nar ks ls c) (g : Nar ks ls d) : Nar ks ls (.either c d) := fun e he => by
  rcases List.mem_append.mp (show e ∈ leavesC c ++ leavesC d from he) with he | he
  · exact h e he
  · exact g e he
theorem Nar.inv {ks : List Key} {ls : List Str} {c : Cnd} (h : Nar ks ls c) : Nar ks ls (.inv c) := h
theorem CndOk.keys {PK : Key → Prop} {PL : Str → Prop} : ∀ {c : Cnd}, CndOk PK PL c → ∀ k ∈ (leavesC c).flatMap ownK, PK k
  | .kind _, h, l, m => by cases m
  | .equals _, h, l, m => by cases m
  | .size _, h, l, m => by cases m
  | .has z, h, l, m => by rw [List.mem_singleton.mp (show l ∈ [z] from m)]; exact h
  | .item z _, h, l, m => by rw [List.mem_singleton.mp (show l ∈ [z] from m)]; exact h.1
  | .before z y, h, l, m => by
    rcases List.mem_cons.mp (show l ∈ [z, y] from m) with rfl | m
    · exact h.1
    · rw [List.mem_singleton.mp m]; exact h.2
  | .first z, h, l, m => by cases m
  | .every z, h, l, m => by cases m
  | .some z, h, l, m => by cases m
  | .both c d, h, l, m => by
    rw [show leavesC (.both c d) = leavesC c ++ leavesC d from rfl, List.flatMap_append] at m
    rcases List.mem_append.mp m with m | m
    · exact h.1.keys l m
    · exact h.2.keys l m
  | .either c d, h, l, m => by
    rw [show leavesC (.either c d) = leavesC c ++ leavesC d from rfl, List.flatMap_append] at m
    rcases List.mem_append.mp m with m | m
    · exact h.1.keys l m
    · exact h.2.keys l m
  | .inv c, h, l, m => CndOk.keys (c := c) h l m
end KQ
namespace KQ
open PySem PySem.Spec PyProof.Rows L2 TL KB
/-! ### passages -/
def psT (C : Addr) (w : Wo) (r : Ro) : Tr := .ins C ["number_keys", "tuples", "nulls", "double_keys", "order", "long_numbers", "same_keys", "digit_keys", "lists", "null_items"] [.str w.keys, .str w.tups, .str w.nulls, .str w.dbl, .str w.order, .str w.longs, .str r.same, .str r.dig, .str r.lists, .str r.nulls]
theorem vw_psT {S : Sto} {C : Addr} {w : Wo} {r : Ro} : vw S (psT C w r) = psT C w r := rfl
/-- what comes back, or who refuses, why, where -/
def crry (w : Wo) (r : Ro) (v : Val) : Except (Str × Str × List Key) Val := match wrt w 62 v [] with
  | .error e => .error ("writer", e.1, e.2)
  | .ok x => match bldR r x [] with
    | .error e => .error ("reader", "double", e)
    | .ok u => .ok u
theorem crry_ok {w : Wo} {r : Ro} {v u : Val} (ov : VOk v) (dv : vdepth v ≤ 60) (h : crry w r v = .ok u) : VOk u ∧ vdepth u ≤ vdepth v ∧ vparts u ≤ vparts v := by
  unfold crry at h
  split at h
  · cases h
  · rename_i x e
    split at h
    · cases h
    · rename_i u' e2
      cases h
      obtain ⟨a, b, c⟩ := wrt_ok w 62 v [] x ov (by omega) e
      obtain ⟨a2, b2, c2⟩ := bldR_ok r x [] u a e2
      exact ⟨a2, by omega, by omega⟩
/-! ### the passages of a run -/
abbrev Psg := Option (Wo × Ro)
def psO (C : Addr) : Psg → Tr
  | none => .non
  | some q => psT C q.1 q.2
theorem vw_psO {S : Sto} {C : Addr} {q : Psg} : vw S (psO C q) = psO C q := by cases q <;> rfl
/-! ### a run of two parts -/
theorem carN_cons (s : Stp) (ss : List Stp) : carN (s :: ss) = (if isCar s then 1 else 0) + carN ss := by
  unfold carN
  cases h : isCar s
  · rw [List.filter_cons_of_neg (by simp [h])]; simp
  · rw [List.filter_cons_of_pos h, List.length_cons]; simp; omega
theorem step_none {rs : List (Str × Cnd)} {cy : Nat → Val → Option Val} {s : Stp} {i : Nat} {v : Val} (h : stepV rs cy s i v = .inr none) : isCar s = false := by
  cases s with
  | carry =>
    unfold stepV at h
    dsimp only at h
    split at h <;> cases h
  | _ => rfl
theorem doneV_cons {rs : List (Str × Cnd)} {cy : Nat → Val → Option Val} (s : Stp) (ss : List Stp) (i : Nat) (v : Val) : doneV rs cy (s :: ss) i v = (match stepV rs cy s i v with
    | .inl o => ([], o)
    | .inr none => doneV rs cy ss i v
    | .inr (some w) => (w :: (doneV rs cy ss (if isCar s then i + 1 else i) w).1, (doneV rs cy ss (if isCar s then i + 1 else i) w).2)) := by
  rw [doneV]
  all_goals (cases stepV rs cy s i v with
  | inl o => rfl
  | inr w => cases w <;> rfl)
theorem done_end {rs : List (Str × Cnd)} {cy : Nat → Val → Option Val} {ys : List Stp} : ∀ (ss : List Stp) (i : Nat) (v : Val), (doneV rs cy ss i v).2 = .endd →
    doneV rs cy (ss ++ ys) i v = ((doneV rs cy ss i v).1 ++ (doneV rs cy ys (i + carN ss) ((doneV rs cy ss i v).1.getLastD v)).1, (doneV rs cy ys (i + carN ss) ((doneV rs cy ss i v).1.getLastD v)).2)
  | [], i, v, _ => by simp [doneV, carN]
  | s :: ss, i, v, h => by
    rw [doneV_cons] at h
    rw [List.cons_append, doneV_cons s (ss ++ ys), doneV_cons s ss]
    cases q : stepV rs cy s i v with
    | inl o => rw [q] at h; dsimp only at h; subst h; exact absurd q (by
        cases s with
        | carry => unfold stepV; dsimp only; split <;> (intro q; cases q)
        | stop z c => unfold stepV; dsimp only; split <;> (intro q; cases q)
        | put k x => cases v <;> (unfold stepV; dsimp only; intro q; cases q)
        | drop k => cases v <;> (unfold stepV; dsimp only; intro q; cases q))
    | inr w =>
      rw [q] at h
      cases w with
      | none =>
        dsimp only at h ⊢
        have c := step_none q
        rw [done_end ss i v h, carN_cons, c, if_neg (by decide), Nat.zero_add]
      | some w =>
        dsimp only at h ⊢
        rw [done_end ss _ w h, List.cons_append, List.getLastD_cons, carN_cons]
        have e : ∀ a : Nat, (if isCar s = true then i + 1 else i) + a = i + ((if isCar s = true then 1 else 0) + a) := fun a => by split <;> omega
        rw [e]
theorem done_stop {rs : List (Str × Cnd)} {cy : Nat → Val → Option Val} {ys : List Stp} : ∀ (ss : List Stp) (i : Nat) (v : Val), (doneV rs cy ss i v).2 ≠ .endd → doneV rs cy (ss ++ ys) i v = doneV rs cy ss i v
  | [], i, v, h => absurd rfl h
  | s :: ss, i, v, h => by
    rw [doneV_cons] at h
    rw [List.cons_append, doneV_cons s (ss ++ ys), doneV_cons s ss]
    cases q : stepV rs cy s i v with
    | inl o => rfl
    | inr w =>
      rw [q] at h
      cases w with
      | none => dsimp only at h ⊢; exact done_stop ss i v h
      | some w => dsimp only at h ⊢; rw [done_stop ss _ w h]
end KQ
namespace KQ
open PySem PySem.Spec PyProof.Rows L2 TL KB
/-! ### keywords bound, quickly -/
/-! ### == of models -/
/-! ### texts of keys -/
theorem numL_head : ∀ n : Nat, 0 < n → (numL n).head? ≠ some 48 := by
  intro n
  induction n using Nat.strongRecOn with
  | _ n ih =>
    intro h
    by_cases h10 : n < 10
    · rw [numL_lt h10]; simp; omega
    · have := ih (n / 10) (by omega) (by omega)
      rw [numL_step (by omega)]
      cases e : numL (n / 10) with
      | nil => exact absurd e (numL_ne _)
      | cons a r => rw [e] at this; simpa using this
theorem numL_zero : numL 0 = [48] := by rw [numL_lt (by decide)]
theorem digs_dg {l : List Nat} (h : NumText.AllDigits l) : l.all isDg = true := List.all_eq_true.mpr fun c hc => by
  have := h c hc
  unfold isDg
  simpa using this
theorem body_num {n : Nat} : body (numL n) = numL n := by
  unfold body
  rw [if_neg]
  intro h
  cases e : numL n with
  | nil => exact absurd e (numL_ne _)
  | cons a r =>
    rw [e] at h
    have := numL_digits n a (by rw [e]; simp)
    cases h
    omega
theorem dig_intS {n : Int} (h : n.natAbs < 10 ^ 30) : digK (tl (intS n)) = true := by
  unfold intS
  rw [tl_int]
  unfold intL
  have l30 := numL_len (n := n.natAbs) (k := 30) (by decide) h
  have ag := digs_dg (numL_digits n.natAbs)
  have ne := numL_ne n.natAbs
  split
  · rename_i hn
    have hh := numL_head n.natAbs (by omega)
    have eb : body (45 :: numL n.natAbs) = numL n.natAbs := by unfold body; rw [if_pos (by simp)]; rfl
    unfold digK
    rw [eb, decide_eq_true ne, decide_eq_true l30, ag, decide_eq_true hh]
    simp
  · unfold digK
    rw [body_num, decide_eq_true ne, decide_eq_true l30, ag]
    by_cases h0 : n.natAbs = 0
    · rw [h0, numL_zero]; rfl
    · rw [decide_eq_true (numL_head n.natAbs (by omega))]; simp
theorem intS_back {n : Int} (h : n.natAbs < 10 ^ 30) : PySem.intText? (intS n) = some n := by
  obtain ⟨m, e, e2, _, _⟩ := digK_int (dig_intS h)
  have : m = n := by
    have e3 : tl (Str.ofString (toString m)) = tl (Str.ofString (toString n)) := congrArg tl e2
    rw [tl_int, tl_int] at e3
    have v : ∀ k : Int, k < 0 → (intL k).head? = some 45 := fun k hk => by unfold intL; rw [if_pos hk]; rfl
    have u : ∀ k : Int, ¬ k < 0 → (intL k).head? ≠ some 45 := fun k hk h => by
      unfold intL at h; rw [if_neg hk] at h
      cases e : numL k.natAbs with
      | nil => exact absurd e (numL_ne _)
      | cons a r =>
        rw [e] at h
        have := numL_digits k.natAbs a (by rw [e]; simp)
        cases h
        omega
    have ab : ∀ a b : Nat, numL a = numL b → a = b := fun a b q => by rw [← numL_val a, ← numL_val b, q]
    by_cases hm : m < 0 <;> by_cases hn : n < 0
    · unfold intL at e3; rw [if_pos hm, if_pos hn] at e3
      have := ab _ _ (List.cons.inj e3).2
      omega
    · exact absurd (by rw [← e3]; exact v m hm) (u n hn)
    · exact absurd (by rw [e3]; exact v n hn) (u m hm)
    · unfold intL at e3; rw [if_neg hm, if_neg hn] at e3
      have := ab _ _ e3
      omega
  rw [e, this]
/-! ### entries put one after another -/
theorem putP_new {k : Key} {v : Val} {ps : List (Key × Val)} (h : k ∉ pK ps) : putP k v ps = ps ++ [(k, v)] := by
  unfold putP
  rw [if_neg (fun q => h (hasK_iff.mp q))]
/-! ### what comes back the same -/
section
variable {o : Wo} {r : Ro} {L : List Str}
end
/-! ### what is refused -/
section
variable {o : Wo} {r : Ro} {g : Str}
/-! ### a reader that refuses doubles -/
end
/-! ### k58's passages -/
end KQ
namespace KQ
open PySem PySem.Spec PyProof.Rows L2 TL KB
/-! ### texts as lists of codes -/
def mkS (l : List Nat) : Str := ⟨l.toArray⟩
theorem tl_mkS (l : List Nat) : tl (mkS l) = l := by simp [tl, mkS]
theorem mkS_inj {a b : List Nat} (h : mkS a = mkS b) : a = b := by rw [← tl_mkS a, ← tl_mkS b, h]
/-! ### the reader of texts, on what is left of the text -/
inductive PErr where
  | nott (r : List Nat)
  | deep (r : List Nat)
abbrev PR (α : Type) := Except PErr (α × List Nat)
def blk : List Nat → List Nat
  | [] => []
  | c :: r => if c = 32 then blk r else c :: r
def pEx (c : Nat) : List Nat → Except PErr (List Nat)
  | [] => .error (.nott [])
  | x :: r => if x = c then .ok r else .error (.nott (x :: r))
def pEs : List Nat → List Nat → Except PErr (List Nat)
  | [], r => .ok r
  | c :: cs, r => match pEx c r with
    | .error e => .error e
    | .ok r' => pEs cs r'
def wrapR (v : RawV) : Except PErr (List Nat) → PR RawV
  | .error e => .error e
  | .ok r => .ok (v, r)
def pWd (r : List Nat) : PR RawV :=
  if r.head? = some 110 then wrapR .non (pEs [110, 117, 108, 108] r)
  else if r.head? = some 116 then wrapR (.bl true) (pEs [116, 114, 117, 101] r)
  else wrapR (.bl false) (pEs [102, 97, 108, 115, 101] r)
/-- so many digits at most -/
def pDg : Nat → List Nat → List Nat × List Nat
  | 0, r => ([], r)
  | _ + 1, [] => ([], [])
  | n + 1, c :: r => if isDg c = true then (c :: (pDg n r).1, (pDg n r).2) else ([], c :: r)
/-- digits behind a sign -/
def pNd (neg : Bool) : List Nat → PR RawV
  | [] => .error (.nott [])
  | c :: r => if isDg c = false then .error (.nott (c :: r))
    else if c = 48 then .ok (.int 0, r)
    else .ok (.int (if neg = true then -((NumText.digitsVal (c :: (pDg 29 r).1) : Nat) : Int) else ((NumText.digitsVal (c :: (pDg 29 r).1) : Nat) : Int)), (pDg 29 r).2)
def pNm (r : List Nat) : PR RawV :=
  if r.head? = some 45 then (if r.tail.head? = some 48 then .error (.nott r.tail) else pNd true r.tail) else pNd false r
/-- a string, behind its first quote -/
def pSt : List Nat → Except PErr (List Nat × List Nat)
  | [] => .error (.nott [])
  | c :: r => if c = 34 then .ok ([], r)
    else if c = 92 then (match r with
      | [] => .error (.nott [])
      | d :: r2 => if d = 34 ∨ d = 92 then (match pSt r2 with
          | .error e => .error e
          | .ok q => .ok (d :: q.1, q.2))
        else .error (.nott (d :: r2)))
    else (match pSt r with
      | .error e => .error e
      | .ok q => .ok (c :: q.1, q.2))
def pStr (r : List Nat) : Except PErr (List Nat × List Nat) := match pEx 34 r with
  | .error e => .error e
  | .ok r' => pSt r'
/-- members behind the first one -/
def pMore {α : Type} (f : List Nat → PR α) (cl : Nat) : Nat → List α → List Nat → PR (List α)
  | 0, _, r => .error (.nott r)
  | n + 1, acc, r => if r.head? = some 44 then (match f r.tail with
      | .error e => .error e
      | .ok q => pMore f cl n (acc ++ [q.1]) (blk q.2))
    else (match pEx cl r with
      | .error e => .error e
      | .ok r' => .ok (acc, r'))
def pMem {α : Type} (f : List Nat → PR α) (cl : Nat) (r : List Nat) : PR (List α) :=
  if (blk r).head? = some cl then .ok ([], (blk r).tail) else (match f (blk r) with
    | .error e => .error e
    | .ok q => pMore f cl (q.2.length + 1) [q.1] (blk q.2))
def pPair (f : List Nat → PR RawV) (r : List Nat) : PR (Str × RawV) := match pStr (blk r) with
  | .error e => .error e
  | .ok q => match pEx 58 (blk q.2) with
    | .error e => .error e
    | .ok r' => match f r' with
      | .error e => .error e
      | .ok v => .ok ((mkS q.1, v.1), v.2)
/-- a value without items, behind blanks -/
def pLeaf (r : List Nat) : PR RawV :=
  if r.head? = some 34 then (match pStr r with
    | .error e => .error e
    | .ok q => .ok (.str (mkS q.1), q.2))
  else if r.head? = some 110 ∨ r.head? = some 116 ∨ r.head? = some 102 then pWd r
  else pNm r
/-- a value; the number tells how many brackets may still be opened -/
def pVal : Nat → List Nat → PR RawV
  | 0, r => if (blk r).head? = some 91 ∨ (blk r).head? = some 123 then .error (.deep (blk r)) else pLeaf (blk r)
  | d + 1, r => if (blk r).head? = some 91 then (match pMem (pVal d) 93 (blk r).tail with
      | .error e => .error e
      | .ok q => .ok (.row q.1, q.2))
    else if (blk r).head? = some 123 then (match pMem (pPair (pVal d)) 125 (blk r).tail with
      | .error e => .error e
      | .ok q => .ok (.tab (q.1.map (·.1)) (q.1.map (·.2)), q.2))
    else pLeaf (blk r)
def pText (l : List Nat) : Except PErr RawV := match pVal 60 l with
  | .error e => .error e
  | .ok q => if (blk q.2).isEmpty = true then .ok q.1 else .error (.nott (blk q.2))
/-! ### what is left is an end of the text -/
def PErr.rest : PErr → List Nat
  | .nott r => r
  | .deep r => r
def Suf {α : Type} (x : PR α) (r : List Nat) : Prop := (∀ q, x = .ok q → q.2 <:+ r) ∧ ∀ e, x = .error e → e.rest <:+ r
def Suf0 (x : Except PErr (List Nat)) (r : List Nat) : Prop := (∀ q, x = .ok q → q <:+ r) ∧ ∀ e, x = .error e → e.rest <:+ r
theorem Suf.up {α : Type} {x : PR α} {r l : List Nat} (h : Suf x r) (s : r <:+ l) : Suf x l := ⟨fun q e => (h.1 q e).trans s, fun q e => (h.2 q e).trans s⟩
theorem Suf0.up {x : Except PErr (List Nat)} {r l : List Nat} (h : Suf0 x r) (s : r <:+ l) : Suf0 x l := ⟨fun q e => (h.1 q e).trans s, fun q e => (h.2 q e).trans s⟩
theorem blk_suf : ∀ r : List Nat, blk r <:+ r
  | [] => List.suffix_refl _
  | c :: r => by
    rw [blk]
    split
    · exact (blk_suf r).trans (List.suffix_cons c r)
    · exact List.suffix_refl _
section
variable {α : Type} {f : List Nat → PR α} {cl : Nat}
end
/-! ### the scanner as a tree -/
theorem suf_drop {z : Str} {r : List Nat} (h : r <:+ tl z) : (tl z).drop (z.length - r.length) = r := by
  obtain ⟨t, e⟩ := h
  rw [len_tl, ← e, List.length_append, Nat.add_sub_cancel]
  exact List.drop_left
theorem suf_len {z : Str} {r : List Nat} (h : r <:+ tl z) : r.length ≤ z.length := by rw [len_tl]; exact h.length_le
structure ZS (z : Str) (r : List Nat) : Prop where
  suf : r <:+ tl z
  pr : Pr z
  len : z.length ≤ 4000000
theorem ZS.le {z : Str} {r : List Nat} (h : ZS z r) : r.length ≤ z.length := suf_len h.suf
theorem ZS.up {z : Str} {r r' : List Nat} (h : ZS z r) (s : r' <:+ r) : ZS z r' := ⟨s.trans h.suf, h.pr, h.len⟩
theorem blk_no {r : List Nat} (h : r.head? ≠ some 32) : blk r = r := by
  cases r with
  | nil => rfl
  | cons c r => rw [blk, if_neg (fun e => h (by rw [e]; rfl))]
theorem head_cons {r : List Nat} {k : Nat} (h : r.head? = some k) : ∃ t, r = k :: t := by
  cases r with
  | nil => cases h
  | cons c r => cases h; exact ⟨r, rfl⟩
theorem pEx_yes {k : Nat} {t : List Nat} : pEx k (k :: t) = .ok t := by rw [pEx, if_pos rfl]
theorem pEx_no {k : Nat} {r : List Nat} (h : r.head? ≠ some k) : pEx k r = .error (.nott r) := by
  cases r with
  | nil => rfl
  | cons c r => rw [pEx, if_neg (fun e => h (by rw [e]; rfl))]
theorem ZS.dig {z : Str} {r : List Nat} (h : ZS z r) : Txt.isdigit (mkS (r.take 1)) = (r.head?.map isDg).getD false := by
  rw [KB.isdigit_pr (fun c hc => by rw [tl_mkS] at hc; exact h.pr c (h.suf.subset (List.mem_of_mem_take hc))), tl_mkS]
  cases r with
  | nil => rfl
  | cons c r => simp
theorem ZS.at_ {z : Str} {c : Nat} {r : List Nat} (h : ZS z (c :: r)) : atI z.cps.toList ((z.length - (c :: r).length : Nat) : Int) = some c := by
  refine atI_nat ?_
  have := suf_drop h.suf
  have e : ((tl z).drop (z.length - (c :: r).length))[0]? = some c := by rw [this]; rfl
  rw [List.getElem?_drop, Nat.add_zero] at e
  exact e
theorem all_dg {l : List Nat} (h : ∀ x ∈ l, isDg x = true) : NumText.AllDigits l := fun c hc => by
  have := h c hc
  unfold isDg at this
  simpa using this
theorem pDg_none {n : Nat} {r : List Nat} (h : n = 0 ∨ (r.head?.map isDg).getD false = false) : pDg n r = ([], r) := by
  cases n with
  | zero => rfl
  | succ n =>
    cases r with
    | nil => rfl
    | cons c r =>
      rcases h with h | h
      · cases h
      · rw [pDg, if_neg (by simpa using h)]
theorem q0 : mkS [] = Str.ofString "" := ext_tl (by rw [tl_mkS]; decide +kernel)
theorem q1 {c : Nat} {t : List Nat} : mkS (c :: t) ≠ Str.ofString "" := fun e => by rw [← q0] at e; cases mkS_inj e
/-! ### members as trees -/
def mapR {α β : Type} (g : α → β) : PR α → PR β
  | .error e => .error e
  | .ok q => .ok (g q.1, q.2)
theorem val_leaf {b : Nat} {r : List Nat} (h1 : (blk r).head? ≠ some 91) (h2 : (blk r).head? ≠ some 123) : pVal b r = pLeaf (blk r) := by
  cases b with
  | zero => rw [pVal, if_neg (fun h => h.elim h1 h2)]
  | succ b => rw [pVal, if_neg h1, if_neg h2]
end KQ
namespace KQ
open PySem PySem.Spec PyProof.Rows L2 TL KB
/-! ### tokens of a raw value, on codes -/
def escL : List Nat → List Nat
  | [] => []
  | c :: r => if c = 34 ∨ c = 92 then 92 :: c :: escL r else c :: escL r
def strK (l : List Nat) : List Nat := 34 :: (escL l ++ [34])
/-- the tokens with blanks behind each -/
inductive Spc : List (List Nat) → List Nat → Prop
  | nil : Spc [] []
  | cons {t : List Nat} {ts : List (List Nat)} {l : List Nat} (n : Nat) (h : Spc ts l) : Spc (t :: ts) (t ++ (List.replicate n 32 ++ l))
theorem Spc.split : ∀ {a b : List (List Nat)} {l : List Nat}, Spc (a ++ b) l → ∃ l1 l2, l = l1 ++ l2 ∧ Spc a l1 ∧ Spc b l2
  | [], b, l, h => ⟨[], l, rfl, .nil, h⟩
  | t :: a, b, l, h => by
    cases h with
    | cons n h =>
      obtain ⟨l1, l2, rfl, h1, h2⟩ := Spc.split h
      exact ⟨_, l2, by simp, .cons n h1, h2⟩
theorem Spc.join {a b : List (List Nat)} {l1 l2 : List Nat} (h1 : Spc a l1) (h2 : Spc b l2) : Spc (a ++ b) (l1 ++ l2) := by
  induction h1 with
  | nil => exact h2
  | cons n h ih => simpa using Spc.cons n ih
theorem Spc.flat : ∀ ts : List (List Nat), Spc ts ts.flatten
  | [] => .nil
  | t :: ts => Spc.cons 0 (Spc.flat ts)
theorem Spc.one {t l : List Nat} (h : Spc [t] l) : ∃ n, l = t ++ List.replicate n 32 := by
  cases h with
  | cons n h => cases h; exact ⟨n, by simp⟩
/-! ### reading -/
def NoD (r : List Nat) : Prop := (r.head?.map isDg).getD false = false
theorem blk_rep (m : Nat) (r : List Nat) : blk (List.replicate m 32 ++ r) = blk r := by
  induction m with
  | zero => rfl
  | succ m ih => rw [List.replicate_succ, List.cons_append, blk, if_pos rfl, ih]
theorem blk_nil (m : Nat) : blk (List.replicate m 32) = [] := by
  have := blk_rep m []
  rwa [List.append_nil] at this
theorem nod_rep {r : List Nat} (n : Nat) (h : NoD r) : NoD (List.replicate n 32 ++ r) := by
  cases n with
  | zero => exact h
  | succ n => rw [List.replicate_succ]; rfl
theorem pVal_rep (b m : Nat) (r : List Nat) : pVal b (List.replicate m 32 ++ r) = pVal b r := by
  cases b with
  | zero => rw [pVal, pVal, blk_rep]
  | succ b => rw [pVal, pVal, blk_rep]
def Rd {α : Type} (f : List Nat → PR α) (ts : List (List Nat)) (x : α) : Prop := ∀ (l rest : List Nat) (m : Nat), Spc ts l → NoD rest → ∃ n, f (List.replicate m 32 ++ (l ++ rest)) = .ok (x, List.replicate n 32 ++ rest)
theorem pDg_all : ∀ (n : Nat) (a r : List Nat), (∀ c ∈ a, isDg c = true) → a.length ≤ n → NoD r → pDg n (a ++ r) = (a, r)
  | n, [], r, _, _, h => pDg_none (.inr h)
  | 0, c :: a, r, _, hl, _ => by cases hl
  | n + 1, c :: a, r, hd, hl, h => by
    rw [List.cons_append, pDg, if_pos (hd c (List.mem_cons_self ..)), pDg_all n a r (fun x hx => hd x (List.mem_cons_of_mem _ hx)) (by simpa using hl) h]
theorem pNm_int {n : Int} (h : n.natAbs < 10 ^ 30) (r : List Nat) (hr : NoD r) : pNm (tl (intS n) ++ r) = .ok (.int n, r) := by
  have hk := dig_intS h
  have hb := intS_back h
  unfold digK at hk
  simp only [Bool.and_eq_true, decide_eq_true_eq, Bool.or_eq_true] at hk
  obtain ⟨⟨⟨h1, h2⟩, h3⟩, h4⟩ := hk
  have hd : ∀ c ∈ body (tl (intS n)), isDg c = true := List.all_eq_true.mp h3
  by_cases hm : (tl (intS n)).head? = some 45
  · obtain ⟨b, eb⟩ := head_cons hm
    have e2 : body (tl (intS n)) = b := by unfold body; rw [if_pos hm, eb]; rfl
    rw [e2] at h1 h2 h4 hd
    have h0 : b.head? ≠ some 48 := by
      rcases h4 with h4 | h4
      · rw [eb] at h4; cases h4
      · exact h4
    have ln := len_tl (intS n)
    rw [eb, List.length_cons] at ln
    have it := intText_neg eb (all_dg hd) h1 (by omega)
    rw [hb] at it
    rw [eb]
    unfold pNm
    rw [if_pos (by simp)]
    cases b with
    | nil => exact absurd rfl h1
    | cons c t =>
      have c48 : ¬ c = 48 := fun e => h0 (by rw [e]; rfl)
      show (if (c :: (t ++ r)).head? = some 48 then _ else pNd true (c :: (t ++ r))) = _
      rw [if_neg (by simpa using c48), pNd, if_neg (by rw [hd c (List.mem_cons_self ..)]; decide), if_neg c48]
      rw [pDg_all 29 t r (fun x hx => hd x (List.mem_cons_of_mem _ hx)) (by simpa using h2) hr, if_pos rfl, ← Option.some.inj it]
  · have e2 : body (tl (intS n)) = tl (intS n) := by unfold body; rw [if_neg hm]
    rw [e2] at h1 h2 h4 hd
    have it := intText_digits (x := intS n) (all_dg hd) h1 (by rw [len_tl]; omega)
    rw [hb] at it
    have it : n = ((NumText.digitsVal (tl (intS n)) : Nat) : Int) := Option.some.inj it
    generalize tl (intS n) = l at *
    cases l with
    | nil => exact absurd rfl h1
    | cons c t =>
      unfold pNm
      rw [if_neg (by simpa using hm), List.cons_append, pNd, if_neg (by rw [hd c (List.mem_cons_self ..)]; decide)]
      by_cases c48 : c = 48
      · have et : t = [] := by
          rcases h4 with h4 | h4
          · cases h4; rfl
          · exact absurd (by rw [c48]; rfl) h4
        rw [if_pos c48, it, c48, et]
        rfl
      · rw [if_neg c48, pDg_all 29 t r (fun x hx => hd x (List.mem_cons_of_mem _ hx)) (by simpa using h2) hr, if_neg Bool.false_ne_true, ← it]
theorem pSt_esc : ∀ (l r : List Nat), pSt (escL l ++ 34 :: r) = .ok (l, r)
  | [], r => by rw [escL, List.nil_append, pSt.eq_def]; dsimp only; rw [if_pos rfl]
  | c :: l, r => by
    rw [escL]
    split
    · rename_i h
      rw [List.cons_append, List.cons_append, pSt.eq_def]
      dsimp only
      rw [if_neg (by decide), if_pos rfl, if_pos h, pSt_esc l r]
    · rename_i h
      rw [List.cons_append, pSt.eq_def]
      dsimp only
      rw [if_neg (fun e => h (.inl e)), if_neg (fun e => h (.inr e)), pSt_esc l r]
theorem pStr_esc (l r : List Nat) : pStr (strK l ++ r) = .ok (l, r) := by
  unfold pStr strK
  rw [List.cons_append, pEx_yes, List.append_assoc]
  exact pSt_esc l r
section
variable {α : Type} {f : List Nat → PR α} {cl : Nat}
end
/-! what is read back: integers of at most thirty digits, names for all items -/
mutual
def RNm : RawV → Prop
  | .row xs => RNmL xs
  | .tab ns xs => RNmL xs ∧ ns.length = xs.length
  | .non => True
  | .bl _ => True
  | .int n => n.natAbs < 10 ^ 30
  | .str _ => True
def RNmL : List RawV → Prop
  | [] => True
  | x :: xs => RNm x ∧ RNmL xs
end
mutual
theorem RNm.of : ∀ {v : RawV}, ROk v → RNm v
  | .row xs, h => RNmL.of (xs := xs) h
  | .tab ns xs, h => ⟨RNmL.of (xs := xs) h.1, h.2.1⟩
  | .non, _ => trivial
  | .bl _, _ => trivial
  | .int _, h => h
  | .str _, _ => trivial
theorem RNmL.of : ∀ {xs : List RawV}, ROkL xs → RNmL xs
  | [], _ => trivial
  | x :: xs, h => ⟨RNm.of h.1, RNmL.of (xs := xs) h.2⟩
end
/-! ### without the blanks outside strings -/
/-! ### the text as it is written -/
/-! ### its signs -/
def PrL (l : List Nat) : Prop := ∀ c ∈ l, 32 ≤ c ∧ c < 127
theorem PrL.mk {l : List Nat} (h : PrL l) : Pr (mkS l) := fun c hc => h c (by rw [tl_mkS] at hc; exact hc)
theorem prL_app {a b : List Nat} (ha : PrL a) (hb : PrL b) : PrL (a ++ b) := fun c hc => (List.mem_append.mp hc).elim (ha c) (hb c)
theorem prL_rep (n : Nat) : PrL (List.replicate n 32) := fun c hc => by rw [List.eq_of_mem_replicate hc]; decide
theorem prL_one {k : Nat} (h : 32 ≤ k ∧ k < 127) : PrL [k] := fun c hc => by rw [List.mem_singleton] at hc; subst hc; exact h
/-! ### how many tokens -/
/-! ### for the walks -/
theorem Sub.trans {a b c : Sto} (h : Sub a b) (g : Sub b c) : Sub a c := fun x d e => g x d (h x d e)
end KQ
namespace KQ
open PySem PySem.Spec PyProof.Rows L2 TL KB
/-! ### the writer's words are plain texts -/
/-! ### told answers compared with themselves -/
/-! ### raw values that are alike -/
/-! names and items go together -/
mutual
def RSh : RawV → Prop
  | .row xs => RShL xs
  | .tab ns xs => RShL xs ∧ ns.length = xs.length
  | .non => True
  | .bl _ => True
  | .int _ => True
  | .str _ => True
def RShL : List RawV → Prop
  | [] => True
  | x :: xs => RSh x ∧ RShL xs
end
mutual
theorem RSh.of : ∀ {v : RawV}, ROk v → RSh v
  | .row xs, h => RShL.of (xs := xs) h
  | .tab ns xs, h => ⟨RShL.of (xs := xs) h.1, h.2.1⟩
  | .non, _ => trivial
  | .bl _, _ => trivial
  | .int _, _ => trivial
  | .str _, _ => trivial
theorem RShL.of : ∀ {xs : List RawV}, ROkL xs → RShL xs
  | [], _ => trivial
  | x :: xs, h => ⟨RSh.of h.1, RShL.of (xs := xs) h.2⟩
end
/-! ### raw values of lists of members -/
/-! ### unlike values have unlike texts -/
/-! ### strings that go wrong -/
theorem zero_val (b : Nat) (r : List Nat) : pVal b (48 :: r) = .ok (.int 0, r) := by
  have hb : blk (48 :: r) = 48 :: r := blk_no (by simp)
  rw [val_leaf (by rw [hb]; simp) (by rw [hb]; simp), hb]
  unfold pLeaf pNm
  rw [if_neg (by simp), if_neg (by simp), if_neg (by simp), pNd, if_neg (by decide), if_pos rfl]
end KQ
namespace KQ
open PySem PySem.Spec PyProof.Rows L2 TL KB
/-! ### a text in a text: what is read of it, or where it goes wrong -/
def Gd (i : Nat) (T : List Nat) (v : RawV) : Prop := ∀ (b : Nat) (rest : List Nat), i ≤ b → NoD rest → ∃ n, pVal b (T ++ rest) = .ok (v, List.replicate n 32 ++ rest)
def Bad (i : Nat) (T Y : List Nat) : Prop := ∀ (b : Nat) (rest : List Nat), i ≤ b → NoD rest → pVal b (T ++ rest) = .error (.nott (Y ++ rest)) ∨ ∃ v c Y', Y = c :: Y' ∧ isDg c = true ∧ pVal b (T ++ rest) = .ok (v, Y ++ rest)
/-- its first sign closes nothing -/
def Hds (T : List Nat) : Prop := ∃ m c t, T = List.replicate m 32 ++ c :: t ∧ c ≠ 93 ∧ c ≠ 125 ∧ c ≠ 32
theorem Hds.blk {T : List Nat} (h : Hds T) (r : List Nat) : (blk (T ++ r)).head? ≠ some 93 ∧ (blk (T ++ r)).head? ≠ some 125 := by
  obtain ⟨m, c, t, rfl, h1, h2, h3⟩ := h
  rw [List.append_assoc, blk_rep, List.cons_append, blk_no (by simpa using h3)]
  exact ⟨by simpa using h1, by simpa using h2⟩
theorem blk_blk : ∀ r : List Nat, blk (blk r) = blk r
  | [] => rfl
  | c :: r => by
    by_cases h : c = 32
    · rw [blk, if_pos h]; exact blk_blk r
    · rw [blk, if_neg h, blk, if_neg h]
theorem pVal_blk (b : Nat) (r : List Nat) : pVal b (blk r) = pVal b r := by
  cases b with
  | zero => rw [pVal, pVal, blk_blk]
  | succ b => rw [pVal, pVal, blk_blk]
theorem blk_c {c : Nat} {r : List Nat} (h : c ≠ 32) : blk (c :: r) = c :: r := blk_no (by simpa using h)
theorem dg_no {c : Nat} (h : isDg c = true) : c ≠ 32 ∧ c ≠ 44 ∧ c ≠ 93 ∧ c ≠ 125 := by
  unfold isDg at h
  simp at h
  omega
/-- a row, a table: the first member read -/
theorem row_step {b : Nat} {T : List Nat} (h : Hds T) (r : List Nat) : pVal (b + 1) (91 :: (T ++ r)) = (match pVal b (T ++ r) with
    | .error e => .error e
    | .ok q => match pMore (pVal b) 93 (q.2.length + 1) [q.1] (blk q.2) with
      | .error e => .error e
      | .ok q => .ok (.row q.1, q.2)) := by
  rw [pVal, blk_c (by decide), if_pos (by rfl), List.tail_cons]
  unfold pMem
  rw [if_neg (h.blk r).1, pVal_blk]
  all_goals (cases pVal b (T ++ r) <;> rfl)
section
variable {α : Type} {f : List Nat → PR α} {cl : Nat}
theorem more_close {k : Nat} {acc : List α} {r : List Nat} (h : cl ≠ 44) : pMore f cl (k + 1) acc (cl :: r) = .ok (acc, r) := by rw [pMore, if_neg (by simpa using h), pEx_yes]
theorem more_bad {k : Nat} {acc : List α} {c : Nat} {r : List Nat} (h1 : c ≠ 44) (h2 : c ≠ cl) : pMore f cl (k + 1) acc (c :: r) = .error (.nott (c :: r)) := by rw [pMore, if_neg (by simpa using h1), pEx_no (by simpa using h2)]
theorem more_next {k : Nat} {acc : List α} {r : List Nat} {q : α × List Nat} (h : f r = .ok q) : pMore f cl (k + 1) acc (44 :: r) = pMore f cl k (acc ++ [q.1]) (blk q.2) := by rw [pMore, if_pos (by rfl), List.tail_cons, h]
theorem more_err {k : Nat} {acc : List α} {r : List Nat} {e : PErr} (h : f r = .error e) : pMore f cl (k + 1) acc (44 :: r) = .error e := by rw [pMore, if_pos (by rfl), List.tail_cons, h]
end
theorem Hds.rep {T : List Nat} (h : Hds T) (m : Nat) : Hds (List.replicate m 32 ++ T) := by
  obtain ⟨n, c, t, rfl, h1, h2, h3⟩ := h
  exact ⟨m + n, c, t, by rw [← List.append_assoc, List.replicate_append_replicate], h1, h2, h3⟩
theorem Hds.app {T : List Nat} (h : Hds T) (r : List Nat) : Hds (T ++ r) := by
  obtain ⟨n, c, t, rfl, h1, h2, h3⟩ := h
  exact ⟨n, c, t ++ r, by simp, h1, h2, h3⟩
theorem Hds.cons {c : Nat} (t : List Nat) (h1 : c ≠ 93) (h2 : c ≠ 125) (h3 : c ≠ 32) : Hds (c :: t) := ⟨0, c, t, rfl, h1, h2, h3⟩
theorem Gd.rep {i : Nat} {T : List Nat} {v : RawV} (h : Gd i T v) (m k : Nat) : Gd i (List.replicate m 32 ++ T ++ List.replicate k 32) v := fun b rest hb hr => by
  obtain ⟨n, e⟩ := h b (List.replicate k 32 ++ rest) hb (nod_rep k hr)
  refine ⟨n + k, ?_⟩
  rw [List.append_assoc, List.append_assoc, pVal_rep, e, ← List.append_assoc, List.replicate_append_replicate]
theorem Bad.rep {i : Nat} {T Y : List Nat} (h : Bad i T Y) (m k : Nat) : Bad i (List.replicate m 32 ++ T ++ List.replicate k 32) (Y ++ List.replicate k 32) := fun b rest hb hr => by
  rw [List.append_assoc, List.append_assoc, pVal_rep, List.append_assoc]
  rcases h b (List.replicate k 32 ++ rest) hb (nod_rep k hr) with e | ⟨v, c, Y', rfl, hc, e⟩
  · exact .inl e
  · exact .inr ⟨v, c, Y' ++ List.replicate k 32, rfl, hc, by rw [e]⟩
/-- [T] -/
theorem Gd.row {i : Nat} {T : List Nat} {v : RawV} (h : Gd i T v) (ht : Hds T) : Gd (i + 1) (91 :: (T ++ [93])) (.row [v]) := fun b rest hb hr => by
  obtain ⟨b, rfl⟩ : ∃ k, b = k + 1 := ⟨b - 1, by omega⟩
  obtain ⟨n, e⟩ := h b (93 :: rest) (by omega) rfl
  refine ⟨0, ?_⟩
  rw [List.cons_append, List.append_assoc, List.cons_append, List.nil_append, row_step ht, e]
  dsimp only
  rw [blk_rep, blk_c (by decide), more_close (by decide)]
  rfl
theorem Bad.row {i : Nat} {T Y : List Nat} (h : Bad i T Y) (ht : Hds T) : Bad (i + 1) (91 :: (T ++ [93])) (Y ++ [93]) := fun b rest hb hr => by
  obtain ⟨b, rfl⟩ : ∃ k, b = k + 1 := ⟨b - 1, by omega⟩
  left
  rw [List.cons_append, List.append_assoc, List.cons_append, List.nil_append, row_step ht, List.append_assoc, List.cons_append, List.nil_append]
  rcases h b (93 :: rest) (by omega) rfl with e | ⟨v, c, Y', rfl, hc, e⟩
  · rw [e]
  · rw [e]
    dsimp only
    obtain ⟨h1, h2, h3, h4⟩ := dg_no hc
    rw [List.cons_append, blk_c h1, more_bad h2 h3]
/-- [-7,T, 0] -/
theorem seven (b : Nat) {r : List Nat} (h : NoD r) : pVal b (45 :: 55 :: r) = .ok (.int (-7), r) := by
  have e : tl (intS (-7)) = [45, 55] := by unfold intS; rw [tl_int]; decide +kernel
  have := pNm_int (n := -7) (by decide) r h
  rw [e] at this
  rw [val_leaf (by rw [blk_c (by decide)]; simp) (by rw [blk_c (by decide)]; simp), blk_c (by decide)]
  unfold pLeaf
  rw [if_neg (by simp), if_neg (by simp)]
  exact this
theorem sev_hd (r : List Nat) : Hds (45 :: 55 :: r) := .cons _ (by decide) (by decide) (by decide)
theorem Gd.mid {i : Nat} {T : List Nat} {v : RawV} (h : Gd i T v) (m : Nat) : Gd (i + 1) (91 :: 45 :: 55 :: (List.replicate m 32 ++ 44 :: (T ++ [44, 32, 48, 93]))) (.row [.int (-7), v, .int 0]) := fun b rest hb hr => by
  obtain ⟨b, rfl⟩ : ∃ k, b = k + 1 := ⟨b - 1, by omega⟩
  obtain ⟨n, e⟩ := h b (44 :: 32 :: 48 :: 93 :: rest) (by omega) rfl
  refine ⟨0, ?_⟩
  have er : 91 :: 45 :: 55 :: (List.replicate m 32 ++ 44 :: (T ++ [44, 32, 48, 93])) ++ rest = 91 :: ((45 :: 55 :: []) ++ (List.replicate m 32 ++ 44 :: (T ++ 44 :: 32 :: 48 :: 93 :: rest))) := by simp
  rw [er, row_step (sev_hd [])]
  rw [show ([45, 55] ++ (List.replicate m 32 ++ 44 :: (T ++ 44 :: 32 :: 48 :: 93 :: rest))) = 45 :: 55 :: (List.replicate m 32 ++ 44 :: (T ++ 44 :: 32 :: 48 :: 93 :: rest)) from rfl, seven b (nod_rep (r := 44 :: (T ++ 44 :: 32 :: 48 :: 93 :: rest)) m rfl)]
  dsimp only
  rw [blk_rep, blk_c (by decide)]
  obtain ⟨k, hk⟩ : ∃ k, (List.replicate m 32 ++ 44 :: (T ++ 44 :: 32 :: 48 :: 93 :: rest)).length = k + 3 := ⟨(List.replicate m 32 ++ 44 :: (T ++ 44 :: 32 :: 48 :: 93 :: rest)).length - 3, by simp only [List.length_append, List.length_cons]; omega⟩
  rw [hk, more_next e, blk_rep, blk_c (by decide), more_next (q := (.int 0, 93 :: rest)) (by rw [← pVal_blk, blk, if_pos rfl, blk_c (by decide)]; exact zero_val b _), blk_c (by decide), more_close (by decide)]
  rfl
theorem Bad.mid {i : Nat} {T Y : List Nat} (h : Bad i T Y) (m : Nat) : Bad (i + 1) (91 :: 45 :: 55 :: (List.replicate m 32 ++ 44 :: (T ++ [44, 32, 48, 93]))) (Y ++ [44, 32, 48, 93]) := fun b rest hb hr => by
  obtain ⟨b, rfl⟩ : ∃ k, b = k + 1 := ⟨b - 1, by omega⟩
  left
  have er : 91 :: 45 :: 55 :: (List.replicate m 32 ++ 44 :: (T ++ [44, 32, 48, 93])) ++ rest = 91 :: ((45 :: 55 :: []) ++ (List.replicate m 32 ++ 44 :: (T ++ 44 :: 32 :: 48 :: 93 :: rest))) := by simp
  rw [er, row_step (sev_hd [])]
  rw [show ([45, 55] ++ (List.replicate m 32 ++ 44 :: (T ++ 44 :: 32 :: 48 :: 93 :: rest))) = 45 :: 55 :: (List.replicate m 32 ++ 44 :: (T ++ 44 :: 32 :: 48 :: 93 :: rest)) from rfl, seven b (nod_rep (r := 44 :: (T ++ 44 :: 32 :: 48 :: 93 :: rest)) m rfl)]
  dsimp only
  rw [blk_rep, blk_c (by decide), List.append_assoc]
  obtain ⟨k, hk⟩ : ∃ k, (List.replicate m 32 ++ 44 :: (T ++ 44 :: 32 :: 48 :: 93 :: rest)).length = k + 3 := ⟨(List.replicate m 32 ++ 44 :: (T ++ 44 :: 32 :: 48 :: 93 :: rest)).length - 3, by simp only [List.length_append, List.length_cons]; omega⟩
  rw [hk]
  rcases h b (44 :: 32 :: 48 :: 93 :: rest) (by omega) rfl with e | ⟨v, c, Y', rfl, hc, e⟩
  · rw [more_err e]; rfl
  · obtain ⟨h1, h2, h3, h4⟩ := dg_no hc
    rw [more_next e]
    dsimp only
    rw [show blk (c :: Y' ++ 44 :: 32 :: 48 :: 93 :: rest) = c :: (Y' ++ 44 :: 32 :: 48 :: 93 :: rest) from blk_c h1, more_bad h2 h3]
    rfl
/-- {"1":T} -/
theorem one_step {b : Nat} (r : List Nat) : pVal (b + 1) (123 :: 34 :: 49 :: 34 :: 58 :: r) = (match pVal b r with
    | .error e => .error e
    | .ok q => match pMore (pPair (pVal b)) 125 (q.2.length + 1) [(mkS [49], q.1)] (blk q.2) with
      | .error e => .error e
      | .ok q => .ok (.tab (q.1.map (·.1)) (q.1.map (·.2)), q.2)) := by
  rw [pVal, blk_c (by decide), if_neg (by simp), if_pos (by rfl), List.tail_cons]
  unfold pMem
  rw [blk_c (by decide), if_neg (by simp)]
  have e : pPair (pVal b) (34 :: 49 :: 34 :: 58 :: r) = (match pVal b r with
      | .error e => .error e
      | .ok q => .ok ((mkS [49], q.1), q.2)) := by
    unfold pPair
    rw [blk_c (by decide), show pStr (34 :: 49 :: 34 :: 58 :: r) = .ok ([49], 58 :: r) from pStr_esc [49] (58 :: r)]
    dsimp only
    rw [blk_c (by decide), pEx_yes]
    try dsimp only
    all_goals (cases pVal b r <;> rfl)
  rw [e]
  all_goals (cases pVal b r <;> rfl)
theorem Gd.tab {i : Nat} {T : List Nat} {v : RawV} (h : Gd i T v) (m k : Nat) : Gd (i + 1) (123 :: 34 :: 49 :: 34 :: 58 :: (List.replicate m 32 ++ (T ++ (List.replicate k 32 ++ [125])))) (.tab [mkS [49]] [v]) := fun b rest hb hr => by
  obtain ⟨b, rfl⟩ : ∃ k, b = k + 1 := ⟨b - 1, by omega⟩
  obtain ⟨n, e⟩ := h b (List.replicate k 32 ++ 125 :: rest) (by omega) (nod_rep k rfl)
  refine ⟨0, ?_⟩
  have er : 123 :: 34 :: 49 :: 34 :: 58 :: (List.replicate m 32 ++ (T ++ (List.replicate k 32 ++ [125]))) ++ rest = 123 :: 34 :: 49 :: 34 :: 58 :: (List.replicate m 32 ++ (T ++ (List.replicate k 32 ++ 125 :: rest))) := by simp
  rw [er, one_step, pVal_rep, e]
  dsimp only
  rw [blk_rep, blk_rep, blk_c (by decide), more_close (by decide)]
  rfl
theorem Bad.tab {i : Nat} {T Y : List Nat} (h : Bad i T Y) (m k : Nat) : Bad (i + 1) (123 :: 34 :: 49 :: 34 :: 58 :: (List.replicate m 32 ++ (T ++ (List.replicate k 32 ++ [125])))) (Y ++ (List.replicate k 32 ++ [125])) := fun b rest hb hr => by
  obtain ⟨b, rfl⟩ : ∃ k, b = k + 1 := ⟨b - 1, by omega⟩
  left
  have er : 123 :: 34 :: 49 :: 34 :: 58 :: (List.replicate m 32 ++ (T ++ (List.replicate k 32 ++ [125]))) ++ rest = 123 :: 34 :: 49 :: 34 :: 58 :: (List.replicate m 32 ++ (T ++ (List.replicate k 32 ++ 125 :: rest))) := by simp
  have ey : Y ++ (List.replicate k 32 ++ [125]) ++ rest = Y ++ (List.replicate k 32 ++ 125 :: rest) := by simp
  rw [er, ey, one_step, pVal_rep]
  rcases h b (List.replicate k 32 ++ 125 :: rest) (by omega) (nod_rep k rfl) with e | ⟨v, c, Y', rfl, hc, e⟩
  · rw [e]
  · rw [e]
    dsimp only
    obtain ⟨h1, h2, h3, h4⟩ := dg_no hc
    rw [List.cons_append, blk_c h1, more_bad h2 h4]
/-- the whole text -/
theorem Gd.text {i : Nat} {T : List Nat} {v : RawV} (h : Gd i T v) (hi : i ≤ 60) : pText T = .ok v := by
  obtain ⟨n, e⟩ := h 60 [] hi rfl
  rw [List.append_nil, List.append_nil] at e
  unfold pText
  rw [e]
  dsimp only
  rw [blk_nil]
  rfl
theorem Bad.text {i : Nat} {T Y : List Nat} (h : Bad i T Y) (hi : i ≤ 60) : pText T = .error (.nott Y) := by
  have e := h 60 [] hi rfl
  rw [List.append_nil, List.append_nil] at e
  unfold pText
  rcases e with e | ⟨v, c, Y', rfl, hc, e⟩
  · rw [e]
  · rw [e]
    dsimp only
    rw [blk_c (dg_no hc).1, if_neg (by simp)]
/-! ### figures with a sign -/
/-! ### what stands around -/
structure Cx4 (i : Nat) (A B : List Nat) (f : RawV → RawV) : Prop where
  good : ∀ X v, Gd 0 X v → Hds X → Gd i (A ++ (X ++ B)) (f v)
  bad : ∀ X Y, Bad 0 X Y → Hds X → Bad i (A ++ (X ++ B)) (Y ++ B)
  hds : ∀ X, Hds X → Hds (A ++ (X ++ B))
theorem Cx4.nil : Cx4 0 [] [] id := ⟨fun X v h _ => by simpa using h, fun X Y h _ => by simpa using h, fun X h => by simpa using h⟩
theorem Gd.le {i j : Nat} {T : List Nat} {v : RawV} (h : Gd i T v) (l : i ≤ j) : Gd j T v := fun b rest hb hr => h b rest (Nat.le_trans l hb) hr
theorem Bad.le {i j : Nat} {T Y : List Nat} (h : Bad i T Y) (l : i ≤ j) : Bad j T Y := fun b rest hb hr => h b rest (Nat.le_trans l hb) hr
def Stp4 (A B : List Nat) (v : RawV) (A' B' : List Nat) (v' : RawV) : Prop := ∃ m ≤ 2,
  (A' = List.replicate m 32 ++ 91 :: A ∧ B' = B ++ [93] ∧ v' = .row [v]) ∨
  (A' = 91 :: 45 :: 55 :: (List.replicate m 32 ++ 44 :: A) ∧ B' = B ++ ([44, 32, 48, 93] ++ List.replicate m 32) ∧ v' = .row [.int (-7), v, .int 0]) ∨
  (A' = 123 :: 34 :: 49 :: 34 :: 58 :: (List.replicate m 32 ++ A) ∧ B' = List.replicate m 32 ++ (B ++ [125]) ∧ v' = .tab [mkS [49]] [v]) ∨
  (A' = List.replicate m 32 ++ A ∧ B' = B ++ List.replicate m 32 ∧ v' = v)
theorem Cx4.step {i : Nat} {A B A' B' : List Nat} {f : RawV → RawV} {v v' : RawV} (h : Cx4 i A B f) (s : Stp4 A B (f v) A' B' v') : ∃ f', v' = f' v ∧ Cx4 (i + 1) A' B' f' := by
  obtain ⟨m, hm, s⟩ := s
  rcases s with ⟨rfl, rfl, rfl⟩ | ⟨rfl, rfl, rfl⟩ | ⟨rfl, rfl, rfl⟩ | ⟨rfl, rfl, rfl⟩
  · refine ⟨fun v => .row [f v], rfl, fun X v g hx => ?_, fun X Y g hx => ?_, fun X hx => ?_⟩
    · have := ((h.good X v g hx).row (h.hds X hx)).rep m 0
      simpa using this
    · have := ((h.bad X Y g hx).row (h.hds X hx)).rep m 0
      simpa using this
    · have := (Hds.cons (A ++ (X ++ (B ++ [93]))) (c := 91) (by decide) (by decide) (by decide)).rep m
      simpa using this
  · refine ⟨fun v => .row [.int (-7), f v, .int 0], rfl, fun X v g hx => ?_, fun X Y g hx => ?_, fun X hx => .cons _ (by decide) (by decide) (by decide)⟩
    · have := ((h.good X v g hx).mid m).rep 0 m
      simpa using this
    · have := ((h.bad X Y g hx).mid m).rep 0 m
      simpa using this
  · refine ⟨fun v => .tab [mkS [49]] [f v], rfl, fun X v g hx => ?_, fun X Y g hx => ?_, fun X hx => .cons _ (by decide) (by decide) (by decide)⟩
    · have g2 : Gd 0 (X ++ List.replicate m 32) v := by simpa using g.rep 0 m
      have := (h.good _ v g2 (hx.app _)).tab m 0
      simpa using this
    · have g2 : Bad 0 (X ++ List.replicate m 32) (Y ++ List.replicate m 32) := by simpa using g.rep 0 m
      have := (h.bad _ _ g2 (hx.app _)).tab m 0
      simpa using this
  · refine ⟨f, rfl, fun X v g hx => ?_, fun X Y g hx => ?_, fun X hx => ?_⟩
    · have := ((h.good X v g hx).rep m m).le (Nat.le_succ i)
      simpa using this
    · have := ((h.bad X Y g hx).rep m m).le (Nat.le_succ i)
      simpa using this
    · have := ((h.hds X hx).app (List.replicate m 32)).rep m
      simpa using this
theorem Stp4.len {A B A' B' : List Nat} {v v' : RawV} (s : Stp4 A B v A' B' v') : A'.length ≤ A.length + 8 ∧ B'.length ≤ B.length + 8 := by
  obtain ⟨m, hm, s⟩ := s
  rcases s with ⟨rfl, rfl, _⟩ | ⟨rfl, rfl, _⟩ | ⟨rfl, rfl, _⟩ | ⟨rfl, rfl, _⟩ <;> simp only [List.length_append, List.length_cons, List.length_replicate, List.length_nil] <;> omega
theorem Stp4.pr {A B A' B' : List Nat} {v v' : RawV} (s : Stp4 A B v A' B' v') (ha : PrL A) (hb : PrL B) : PrL A' ∧ PrL B' := by
  obtain ⟨m, hm, s⟩ := s
  have c1 : ∀ (c : Nat) (l : List Nat), (32 ≤ c ∧ c < 127) → PrL l → PrL (c :: l) := fun c l h hl => prL_app (prL_one h) hl
  have r := prL_rep m
  rcases s with ⟨rfl, rfl, _⟩ | ⟨rfl, rfl, _⟩ | ⟨rfl, rfl, _⟩ | ⟨rfl, rfl, _⟩
  · exact ⟨prL_app r (c1 _ _ (by decide) ha), prL_app hb (prL_one (by decide))⟩
  · exact ⟨c1 _ _ (by decide) (c1 _ _ (by decide) (c1 _ _ (by decide) (prL_app r (c1 _ _ (by decide) ha)))), prL_app hb (prL_app (by unfold PrL; decide) r)⟩
  · exact ⟨c1 _ _ (by decide) (c1 _ _ (by decide) (c1 _ _ (by decide) (c1 _ _ (by decide) (c1 _ _ (by decide) (prL_app r ha))))), prL_app r (prL_app hb (prL_one (by decide)))⟩
  · exact ⟨prL_app r ha, prL_app hb r⟩
end KQ
namespace KQ
open PySem PySem.Spec PyProof.Rows L2 TL KB
/-! ### rows and tables within one another -/
/-- where the inner bracket stands, and what stands from it on -/
def inr : Nat → Option (Nat × List Nat)
  | 1 => some (1, [91, 93, 44])
  | 3 => some (5, [123, 125, 44, 34, 97, 34, 58])
  | _ => none
/-- what closes a member, or does not -/
def Fin (cl : Nat) (v : RawV) (mk : RawV → RawV) : PR RawV → PR RawV
  | .error e => .error e
  | .ok (v, r) => match blk r with
    | [] => .error (.nott [])
    | c :: r => if c = cl then .ok (mk v, r) else .error (.nott (c :: r))
/-! ### levels -/
/-! ### levels as trees -/
end KQ
namespace KQ
open PySem PySem.Spec PyProof.Rows L2 TL KB
/-! ### steps that do nothing -/
section
variable {rs : List (Str × Cnd)}
structure Idl (rs : List (Str × Cnd)) (xs ys : List Stp) : Prop where
  car : carN xs = carN ys
  out : ∀ cy i v, (doneV rs cy xs i v).2 = (doneV rs cy ys i v).2
  last : ∀ cy i v, (doneV rs cy ys i v).2 = .endd → (doneV rs cy xs i v).1.getLastD v = (doneV rs cy ys i v).1.getLastD v
theorem Idl.mid {xs ys : List Stp} (h : Idl rs xs ys) (a b : List Stp) (cy : Nat → Val → Option Val) (i : Nat) (v : Val) : (doneV rs cy (a ++ xs ++ b) i v).2 = (doneV rs cy (a ++ ys ++ b) i v).2 := by
  rw [List.append_assoc, List.append_assoc]
  by_cases ha : (doneV rs cy a i v).2 = .endd
  · rw [done_end a i v ha, done_end a i v ha]
    dsimp only
    generalize (doneV rs cy a i v).1.getLastD v = u
    by_cases hx : (doneV rs cy ys (i + carN a) u).2 = .endd
    · rw [done_end ys _ u hx, done_end xs _ u (by rw [h.out]; exact hx), h.car, h.last _ _ _ hx]
    · rw [done_stop ys _ u hx, done_stop xs _ u (by rw [h.out]; exact hx), h.out]
  · rw [done_stop a i v ha, done_stop a i v ha]
/-! the seven forms -/
end
end KQ
namespace KQ
open PySem PySem.Spec PyProof.Rows L2 TL KB
/-! ### what is read of a beginning stays, whatever follows -/
def PErr.app (y : List Nat) : PErr → PErr
  | .nott r => .nott (r ++ y)
  | .deep r => .deep (r ++ y)
def Beh {α : Type} (x : PR α) (y : List Nat) : Prop := (∀ q, x = .ok q → q.2.length ≤ y.length) ∧ ∀ e, x = .error e → e.rest.length ≤ y.length
theorem Suf.beh {α : Type} {x : PR α} {y : List Nat} (h : Suf x y) : Beh x y := ⟨fun q e => (h.1 q e).length_le, fun q e => (h.2 q e).length_le⟩
structure AtP {α : Type} (N : α → Bool) (f : List Nat → PR α) (u : List Nat) : Prop where
  er : ∀ y e, f u = .error e → e.rest ≠ [] → f (u ++ y) = .error (e.app y)
  ee : ∀ y e, f u = .error e → e.rest = [] → e = .nott [] ∧ Beh (f (u ++ y)) y
  st : ∀ y q, f u = .ok q → (q.2 ≠ [] ∨ N q.1 = false) → f (u ++ y) = .ok (q.1, q.2 ++ y)
  oe : ∀ y q, f u = .ok q → q.2 = [] → Beh (f (u ++ y)) y
def Prg {α : Type} (N : α → Bool) (f : List Nat → PR α) : Prop := ∀ u, AtP N f u
def SufF {α : Type} (f : List Nat → PR α) : Prop := ∀ r, Suf (f r) r
theorem blk_app : ∀ (u y : List Nat), blk u ≠ [] → blk (u ++ y) = blk u ++ y
  | [], y, h => (h rfl).elim
  | c :: u, y, h => by
    rw [List.cons_append, blk, blk]
    by_cases e : c = 32
    · rw [if_pos e, if_pos e]
      rw [blk, if_pos e] at h
      exact blk_app u y h
    · rw [if_neg e, if_neg e]; rfl
theorem blk_app0 : ∀ (u y : List Nat), blk u = [] → blk (u ++ y) = blk y
  | [], y, h => rfl
  | c :: u, y, h => by
    rw [List.cons_append, blk]
    rw [blk] at h
    by_cases e : c = 32
    · rw [if_pos e] at h ⊢
      exact blk_app0 u y h
    · rw [if_neg e] at h; cases h
theorem tail_app {u y : List Nat} (h : u ≠ []) : (u ++ y).tail = u.tail ++ y := by cases u with
  | nil => exact (h rfl).elim
  | cons c u => rfl
/-- at the end: what a reader says of nothing -/
theorem end_rest {α : Type} {f : List Nat → PR α} (s : SufF f) {e : PErr} (h : f [] = .error e) : e.rest = [] := List.suffix_nil.mp ((s []).2 e h)
theorem end_ok {α : Type} {f : List Nat → PR α} (s : SufF f) {q : α × List Nat} (h : f [] = .ok q) : q.2 = [] := List.suffix_nil.mp ((s []).1 q h)
/-- one reader behind another -/
def seqP {α β : Type} (f : List Nat → PR α) (g : α → List Nat → PR β) (r : List Nat) : PR β := match f r with
  | .error e => .error e
  | .ok q => g q.1 q.2
theorem AtP.seq {α β : Type} {N : α → Bool} {M : β → Bool} {f : List Nat → PR α} {g : α → List Nat → PR β} {u : List Nat} (hf : AtP N f u) (hg : ∀ a r, f u = .ok (a, r) → AtP M (g a) r) (sg : ∀ a, SufF (g a))
    (hn : ∀ a q, N a = true → g a [] = .ok q → M q.1 = true) : AtP M (seqP f g) u := by
  have beh : ∀ y, Beh (f (u ++ y)) y → Beh (seqP f g (u ++ y)) y := fun y h => by
    unfold seqP
    cases hx : f (u ++ y) with
    | error e => exact ⟨fun q e => (by cases e), fun q e' => by cases e'; exact h.2 _ hx⟩
    | ok q => exact ⟨fun q' e => Nat.le_trans ((sg q.1 q.2).1 q' e).length_le (h.1 _ hx), fun q' e => Nat.le_trans ((sg q.1 q.2).2 q' e).length_le (h.1 _ hx)⟩
  have go : ∀ y a r, f u = .ok (a, r) → (r ≠ [] ∨ N a = false) → seqP f g u = g a r ∧ seqP f g (u ++ y) = g a (r ++ y) := fun y a r h1 h2 => by
    have := hf.st y _ h1 h2
    unfold seqP
    rw [h1, this]; exact ⟨rfl, rfl⟩
  refine ⟨fun y e h1 h2 => ?_, fun y e h1 h2 => ?_, fun y q h1 h2 => ?_, fun y q h1 h2 => ?_⟩
  · cases hx : f u with
    | error e' =>
      have : e' = e := by unfold seqP at h1; rw [hx] at h1; cases h1; rfl
      subst this
      unfold seqP; rw [hf.er y _ hx h2]
    | ok q =>
      by_cases hq : q.2 ≠ [] ∨ N q.1 = false
      · obtain ⟨e1, e2⟩ := go y q.1 q.2 hx hq
        rw [e2]; rw [e1] at h1; exact (hg q.1 q.2 hx).er y e h1 h2
      · have hq2 : q.2 = [] := Decidable.byContradiction fun h => hq (.inl h)
        unfold seqP at h1; rw [hx] at h1
        have h1 : g q.1 q.2 = .error e := h1
        rw [hq2] at h1
        exact (h2 (end_rest (sg q.1) h1)).elim
  · cases hx : f u with
    | error e' =>
      have : e' = e := by unfold seqP at h1; rw [hx] at h1; cases h1; rfl
      subst this
      obtain ⟨z, b⟩ := hf.ee y _ hx h2
      exact ⟨z, beh y b⟩
    | ok q =>
      by_cases hq : q.2 ≠ [] ∨ N q.1 = false
      · obtain ⟨e1, e2⟩ := go y q.1 q.2 hx hq
        rw [e2]; rw [e1] at h1; exact (hg q.1 q.2 hx).ee y e h1 h2
      · have hq2 : q.2 = [] := Decidable.byContradiction fun h => hq (.inl h)
        have h1' : g q.1 q.2 = .error e := by unfold seqP at h1; rw [hx] at h1; exact h1
        exact ⟨((hg q.1 q.2 hx).ee [] e h1' h2).1, beh y (hf.oe y q hx hq2)⟩
  · cases hx : f u with
    | error e' => unfold seqP at h1; rw [hx] at h1; cases h1
    | ok q' =>
      by_cases hq : q'.2 ≠ [] ∨ N q'.1 = false
      · obtain ⟨e1, e2⟩ := go y q'.1 q'.2 hx hq
        rw [e2]; rw [e1] at h1; exact (hg q'.1 q'.2 hx).st y q h1 h2
      · have hq2 : q'.2 = [] := Decidable.byContradiction fun h => hq (.inl h)
        have hq3 : N q'.1 = true := by cases h : N q'.1 with
          | true => rfl
          | false => exact (hq (.inr h)).elim
        have h1' : g q'.1 q'.2 = .ok q := by unfold seqP at h1; rw [hx] at h1; exact h1
        rw [hq2] at h1'
        rcases h2 with h2 | h2
        · exact (h2 (end_ok (sg q'.1) h1')).elim
        · rw [hn q'.1 q hq3 h1'] at h2; cases h2
  · cases hx : f u with
    | error e' => unfold seqP at h1; rw [hx] at h1; cases h1
    | ok q' =>
      by_cases hq : q'.2 ≠ [] ∨ N q'.1 = false
      · obtain ⟨e1, e2⟩ := go y q'.1 q'.2 hx hq
        rw [e2]; rw [e1] at h1; exact (hg q'.1 q'.2 hx).oe y q h1 h2
      · have hq2 : q'.2 = [] := Decidable.byContradiction fun h => hq (.inl h)
        exact beh y (hf.oe y q' hx hq2)
theorem Prg.seq {α β : Type} {N : α → Bool} {M : β → Bool} {f : List Nat → PR α} {g : α → List Nat → PR β} (hf : Prg N f) (hg : ∀ a, Prg M (g a)) (sg : ∀ a, SufF (g a))
    (hn : ∀ a q, N a = true → g a [] = .ok q → M q.1 = true) : Prg M (seqP f g) := fun u => (hf u).seq (fun a r _ => hg a r) sg hn
theorem AtP.blk {α : Type} {N : α → Bool} {f : List Nat → PR α} {u : List Nat} (p : AtP N f (blk u)) (s : SufF f) (h0 : ∀ q, f [] = .ok q → N q.1 = true) : AtP N (fun r => f (KQ.blk r)) u := by
  by_cases hb : KQ.blk u = []
  · rw [hb] at p
    have b0 : ∀ y, Beh (f (KQ.blk (u ++ y))) y := fun y => by rw [blk_app0 u y hb]; exact ((s _).up (blk_suf y)).beh
    refine ⟨fun y e h1 h2 => ?_, fun y e h1 h2 => ⟨?_, b0 y⟩, fun y q h1 h2 => ?_, fun y q h1 h2 => b0 y⟩
    all_goals rw [hb] at h1
    · exact (h2 (end_rest s h1)).elim
    · exact (p.ee [] e h1 h2).1
    · rcases h2 with h2 | h2
      · exact (h2 (end_ok s h1)).elim
      · rw [h0 q h1] at h2; cases h2
  · refine ⟨fun y e h1 h2 => ?_, fun y e h1 h2 => ?_, fun y q h1 h2 => ?_, fun y q h1 h2 => ?_⟩
    all_goals rw [blk_app u y hb]
    · exact p.er y e h1 h2
    · exact p.ee y e h1 h2
    · exact p.st y q h1 h2
    · exact p.oe y q h1 h2
theorem Prg.blk {α : Type} {N : α → Bool} {f : List Nat → PR α} (p : Prg N f) (s : SufF f) (h0 : ∀ q, f [] = .ok q → N q.1 = true) : Prg N (fun r => f (KQ.blk r)) := fun u => (p (KQ.blk u)).blk s h0
/-! the readers, one after another -/
theorem AtP.red {α β : Type} {N : α → Bool} {M : β → Bool} {f : List Nat → PR β} {h : List Nat → PR α} {g : α → β} {u t : List Nat} (e : ∀ y, f (u ++ y) = mapR g (h (t ++ y))) (p : AtP N h t) (hn : ∀ a, M (g a) = N a) : AtP M f u := by
  have e0 := e []
  rw [List.append_nil, List.append_nil] at e0
  have beh : ∀ y, Beh (h (t ++ y)) y → Beh (f (u ++ y)) y := fun y b => by
    rw [e y]
    cases hx : h (t ++ y) with
    | error e => exact ⟨fun q e => (by cases e), fun q e' => (by cases e'; exact b.2 _ hx)⟩
    | ok q => exact ⟨fun q e => (by cases e; exact b.1 _ hx), fun q e => (by cases e)⟩
  obtain ⟨p1, p2, p3, p4⟩ := p
  refine ⟨fun y e1 h1 h2 => ?_, fun y e1 h1 h2 => ?_, fun y q h1 h2 => ?_, fun y q h1 h2 => ?_⟩
  all_goals rw [e0] at h1
  all_goals cases hx : h t with
    | error e' => ?_
    | ok q' => ?_
  all_goals rw [hx] at h1
  all_goals cases h1
  · rw [e y, p1 y _ hx h2]; rfl
  · exact ⟨(p2 y _ hx h2).1, beh y (p2 y _ hx h2).2⟩
  · rw [e y, p3 y _ hx (h2.imp id fun h => by rw [← hn]; exact h)]; rfl
  · exact beh y (p4 y _ hx h2)
theorem AtP.deep {α : Type} {N : α → Bool} {f : List Nat → PR α} {u t : List Nat} (e : ∀ y, f (u ++ y) = .error (.deep (t ++ y))) (ht : t ≠ []) : AtP N f u := by
  have e0 := e []
  rw [List.append_nil, List.append_nil] at e0
  exact ⟨fun y e1 h1 h2 => (by rw [e0] at h1; cases h1; exact e y), fun y e1 h1 h2 => (by rw [e0] at h1; cases h1; exact (ht h2).elim), fun y q h1 h2 => (by rw [e0] at h1; cases h1), fun y q h1 h2 => (by rw [e0] at h1; cases h1)⟩
theorem AtP.eoe {α : Type} {N : α → Bool} {f : List Nat → PR α} {u : List Nat} (e : f u = .error (.nott [])) (b : ∀ y, Beh (f (u ++ y)) y) : AtP N f u :=
  ⟨fun y e1 h1 h2 => (by rw [e] at h1; cases h1; exact (h2 rfl).elim), fun y e1 h1 h2 => (by rw [e] at h1; cases h1; exact ⟨rfl, b y⟩), fun y q h1 h2 => (by rw [e] at h1; cases h1), fun y q h1 h2 => (by rw [e] at h1; cases h1)⟩
theorem AtP.nil {α : Type} {N : α → Bool} {f : List Nat → PR α} (s : SufF f) (e : f [] = .error (.nott [])) : AtP N f [] := AtP.eoe e fun y => (s y).beh
theorem Prg.eq {α : Type} {N : α → Bool} {f g : List Nat → PR α} (p : Prg N f) (h : ∀ r, g r = f r) : Prg N g := by rw [funext h]; exact p
theorem Prg.map {α β : Type} {N : α → Bool} {M : β → Bool} {g : α → β} {f : List Nat → PR α} (p : Prg N f) (hn : ∀ a, M (g a) = N a) : Prg M (fun r => mapR g (f r)) := fun u => AtP.red (g := g) (h := f) (t := u) (fun y => rfl) (p u) hn
theorem AtP.tail {α : Type} {N : α → Bool} {f : List Nat → PR α} (p : Prg N f) {u : List Nat} (hu : u ≠ []) : AtP N (fun r => f r.tail) u := by
  refine AtP.red (g := id) (h := f) (t := u.tail) (fun y => ?_) (p _) (fun _ => rfl)
  rw [tail_app hu]; cases f (u.tail ++ y) <;> rfl
section
variable {α : Type} {f : List Nat → PR α} {cl : Nat} {N : α → Bool}
end
end KQ
namespace KQ
open PySem PySem.Spec PyProof.Rows L2 TL KB
/-! ### whole texts: where they are wrong, and their beginnings -/
/-! a number read at the end stays a number -/
/-! only blanks lack -/
/-! a number cut in the middle -/
end KQ
namespace KQ
open PySem PySem.Spec PyProof.Rows L2 TL KB
/-! ### sum(xs) of a list of ints -/
end KQ
namespace KQ
open PySem PySem.Spec PyProof.Rows L2 TL KB
/-! ### writers alike: what two of them do with eleven small values tells what they do with all -/
def k5 : Key := .inl 5
def kk : Key := .inr "k"
theorem wrt_tab (o : Wo) (n : Nat) (ks : List Key) (vs : List Val) (p : List Key) : wrt o (n + 1) (.tab ks vs) p = wT (wrt o n) o (ks.zip vs) p := rfl
/-! #### and back -/
/-! #### all values -/
/-! #### the law's plain side -/
/-! #### `==` of lists of texts of any length, and of a text or none -/
end KQ
namespace KQ
open PySem PySem.Spec PyProof.Rows L2 TL KB
/-! ### what comes back comes back the same -/
abbrev ltE (a b : Key × Val) : Bool := ltS (keyS a.1) (keyS b.1)
theorem isort_id {α : Type} {lt : α → α → Bool} : ∀ {l : List α}, l.Pairwise (fun x y => lt y x = false) → isort lt l = l
  | [], _ => rfl
  | x :: xs, h => by
    have h' := List.pairwise_cons.mp h
    rw [isort, isort_id h'.2]
    cases xs with
    | nil => rfl
    | cons y ys => rw [insS, if_neg (by rw [h'.1 y (List.mem_cons_self ..)]; decide)]
theorem isort_pw {l : List (Key × Val)} : (isort ltE l).Pairwise (fun x y => ltS (keyS y.1) (keyS x.1) = false) := by
  have : SrtO.Swo ltE := ⟨fun a b h => swoS.asym _ _ h, fun a b c h g => swoS.tr _ _ _ h g⟩
  exact isort_srtd this l
mutual
/-- what a writer makes -/
def rawC (w : Wo) : RawV → Prop
  | .non => True
  | .bl _ => True
  | .str _ => True
  | .int i => longI i = true → w.longs = "keep"
  | .row xs => rawCL w xs
  | .tab ns xs => rawCL w xs ∧ (w.nulls = "skip" → ∀ x ∈ xs, x ≠ .non) ∧ (w.order = "rising" → ns.Pairwise (fun x y => ltS y x = false))
def rawCL (w : Wo) : List RawV → Prop
  | [] => True
  | x :: xs => rawC w x ∧ rawCL w xs
end
mutual
/-- what comes back -/
def valC (w : Wo) (r : Ro) : Val → Prop
  | .non => True
  | .bl _ => True
  | .str _ => True
  | .int i => longI i = true → w.longs = "keep"
  | .lst vs => r.lists ≠ "tuple" ∧ valCL w r vs
  | .tup vs => r.lists = "tuple" ∧ valCL w r vs
  | .tab ks vs => valCL w r vs ∧ (∀ v ∈ vs, isNonV v = true → w.nulls ≠ "skip" ∧ r.nulls = "keep") ∧ (∀ k ∈ ks, bkey r (keyS k) = k) ∧ (ks.map keyS).Nodup ∧ (w.order = "rising" → ks.Pairwise (fun x y => ltS (keyS y) (keyS x) = false))
def valCL (w : Wo) (r : Ro) : List Val → Prop
  | [] => True
  | v :: vs => valC w r v ∧ valCL w r vs
end
theorem rawCL_iff {w : Wo} : ∀ {xs : List RawV}, rawCL w xs ↔ ∀ x ∈ xs, rawC w x
  | [] => ⟨(fun _ _ h => nomatch h), fun _ => trivial⟩
  | x :: xs => by
    show rawC w x ∧ rawCL w xs ↔ _
    rw [rawCL_iff (xs := xs)]
    constructor
    · intro h y hy
      rcases List.mem_cons.mp hy with rfl | hy
      · exact h.1
      · exact h.2 y hy
    · exact fun h => ⟨h x (List.mem_cons_self ..), fun y hy => h y (List.mem_cons_of_mem _ hy)⟩
theorem valCL_iff {w : Wo} {r : Ro} : ∀ {xs : List Val}, valCL w r xs ↔ ∀ x ∈ xs, valC w r x
  | [] => ⟨(fun _ _ h => nomatch h), fun _ => trivial⟩
  | x :: xs => by
    show valC w r x ∧ valCL w r xs ↔ _
    rw [valCL_iff (xs := xs)]
    constructor
    · intro h y hy
      rcases List.mem_cons.mp hy with rfl | hy
      · exact h.1
      · exact h.2 y hy
    · exact fun h => ⟨h x (List.mem_cons_self ..), fun y hy => h y (List.mem_cons_of_mem _ hy)⟩
/-! #### the writer -/
theorem wL_all {f : Val → List Key → Except WErr RawV} {P : RawV → Prop} : ∀ (vs : List Val) (i : Nat) (p : List Key) (ws : List RawV), (∀ v ∈ vs, ∀ p x, f v p = .ok x → P x) → wL f vs i p = .ok ws → ∀ x ∈ ws, P x
  | [], i, p, ws, _, e, x, hx => by cases e; cases hx
  | v :: vs, i, p, ws, h, e, x, hx => by
    rw [wL] at e
    split at e
    · cases e
    · rename_i w hw
      split at e
      · cases e
      · rename_i us hu
        cases e
        rcases List.mem_cons.mp hx with rfl | hx
        · exact h v (List.mem_cons_self ..) _ _ hw
        · exact wL_all vs (i + 1) p us (fun v hv => h v (List.mem_cons_of_mem _ hv)) hu x hx
theorem wP_all {f : Val → List Key → Except WErr RawV} {o : Wo} : ∀ (qs : List (Key × Val)) (p : List Key) (acc : List Str) (ws : List (Str × RawV)), wP f o qs p acc = .ok ws →
    ws.map (·.1) = qs.map (fun q => keyS q.1) ∧ ∀ z ∈ ws, ∃ q ∈ qs, ∃ p, f q.2 p = .ok z.2
  | [], p, acc, ws, e => by cases e; exact ⟨rfl, fun _ h => nomatch h⟩
  | q :: qs, p, acc, ws, e => by
    rw [wP] at e
    split at e
    · cases e
    · split at e
      · cases e
      · rename_i w hw
        split at e
        · cases e
        · rename_i us hu
          cases e
          obtain ⟨h1, h2⟩ := wP_all qs p _ us hu
          refine ⟨by rw [List.map_cons, List.map_cons, h1], fun z hz => ?_⟩
          rcases List.mem_cons.mp hz with rfl | hz
          · exact ⟨q, List.mem_cons_self .., _, hw⟩
          · obtain ⟨q', hq', g⟩ := h2 z hz
            exact ⟨q', List.mem_cons_of_mem _ hq', g⟩
theorem wK_nulls {o : Wo} (h : o.nulls = "skip") : ∀ (ps qs : List (Key × Val)), wK o ps = .ok qs → ∀ z ∈ qs, isNonV z.2 = false
  | [], qs, e, z, hz => by cases e; cases hz
  | q :: ps, qs, e, z, hz => by
    rw [wK] at e
    split at e
    · exact wK_nulls h ps qs e z hz
    · rename_i c
      split at e
      · cases e
      · split at e
        · cases e
        · rename_i rs hr
          have ih := wK_nulls h ps rs hr
          cases e
          have hq : isNonV q.2 = false := by
            cases hn : isNonV q.2 with
            | false => rfl
            | true => exact absurd ⟨hn, h⟩ c
          split at hz
          · rcases List.mem_cons.mp hz with rfl | hz
            · exact hq
            · exact ih z hz
          · exact ih z hz
theorem wrt_non {o : Wo} {n : Nat} {v : Val} {p : List Key} {x : RawV} (h : wrt o (n + 1) v p = .ok x) (hx : x = .non) : isNonV v = true := by
  subst hx
  cases v with
  | non => rfl
  | bl b => cases h
  | str z => cases h
  | int i =>
    have h : wI o i p = .ok .non := h
    unfold wI at h
    split at h
    · split at h <;> cases h
    · cases h
  | lst vs =>
    have h : wR (wrt o n) vs p = .ok .non := h
    unfold wR at h
    split at h <;> cases h
  | tup vs =>
    have h : (if o.tups = "refuse" then (.error ("tuple", p) : Except WErr RawV) else wR (wrt o n) vs p) = .ok .non := h
    split at h
    · cases h
    · unfold wR at h
      split at h <;> cases h
  | tab ks vs =>
    rw [wrt_tab] at h
    unfold wT at h
    split at h
    · cases h
    · split at h <;> cases h
theorem zip_fst_eq {ws : List (Str × RawV)} {z : RawV} (h : z ∈ ws.map (·.2)) : ∃ q ∈ ws, q.2 = z := by
  obtain ⟨q, hq, e⟩ := List.mem_map.mp h
  exact ⟨q, hq, e⟩
theorem wrt_raw {o : Wo} : ∀ (n : Nat) (v : Val) (p : List Key) (x : RawV), vdepth v < n → wrt o n v p = .ok x → rawC o x
  | 0, v, p, x, h, _ => absurd h (Nat.not_lt_zero _)
  | n + 1, v, p, x, hd, e => by
    have dp : ∀ vs : List Val, 1 + vdepthL vs < n + 1 → ∀ v ∈ vs, vdepth v < n := fun vs h v hv => by have := (wdL_mem hv).1; omega
    have row : ∀ vs, 1 + vdepthL vs < n + 1 → wR (wrt o n) vs p = .ok x → rawC o x := fun vs h e => by
      unfold wR at e
      split at e
      · cases e
      · rename_i ws hw
        cases e
        exact rawCL_iff.mpr (wL_all vs 0 p ws (fun v hv q y hy => wrt_raw n v q y (dp vs h v hv) hy) hw)
    cases v with
    | non => cases e; trivial
    | bl b => cases e; trivial
    | str z => cases e; trivial
    | int i =>
      have e : wI o i p = .ok x := e
      unfold wI at e
      split at e
      · split at e
        · cases e
        · cases e; trivial
      · rename_i c
        cases e
        intro hl
        exact Decidable.byContradiction fun n => c ⟨hl, n⟩
    | lst vs => exact row vs hd e
    | tup vs =>
      have e : (if o.tups = "refuse" then (.error ("tuple", p) : Except WErr RawV) else wR (wrt o n) vs p) = .ok x := e
      split at e
      · cases e
      · exact row vs hd e
    | tab ks vs =>
      rw [wrt_tab] at e
      unfold wT at e
      split at e
      · cases e
      · rename_i qs hq
        split at e
        · cases e
        · rename_i ws hw
          cases e
          obtain ⟨h1, h2⟩ := wP_all _ _ _ _ hw
          have mem : ∀ q ∈ wS o qs, q ∈ ks.zip vs := fun q hq' => (wK_sub _ _ hq).subset (wS_perm.mem_iff.mp hq')
          have vmem : ∀ q ∈ wS o qs, vdepth q.2 < n := fun q hq' => dp vs hd q.2 (List.of_mem_zip (show (q.1, q.2) ∈ _ from mem q hq')).2
          refine ⟨rawCL_iff.mpr fun y hy => ?_, fun hs y hy => ?_, fun hr => ?_⟩
          · obtain ⟨z, hz, rfl⟩ := zip_fst_eq hy
            obtain ⟨q, hq', p', e'⟩ := h2 z hz
            exact wrt_raw n q.2 p' z.2 (vmem q hq') e'
          · obtain ⟨z, hz, rfl⟩ := zip_fst_eq hy
            obtain ⟨q, hq', p', e'⟩ := h2 z hz
            intro hn
            have nn := wK_nulls hs _ _ hq q (wS_perm.mem_iff.mp hq')
            have lt := vmem q hq'
            cases n with
            | zero => exact absurd lt (Nat.not_lt_zero _)
            | succ n => rw [wrt_non e' hn] at nn; cases nn
          · rw [h1]
            have : wS o qs = isort ltE qs := by unfold wS; rw [if_pos hr]
            rw [this, List.pairwise_map]
            exact isort_pw
/-! #### the reader -/
theorem keyS_bkey {r : Ro} {z : Str} : keyS (bkey r z) = z := by
  unfold bkey
  split
  · rename_i h
    obtain ⟨n, e1, e2, _⟩ := digK_int h.2
    rw [e1]
    exact e2
  · rfl
theorem bkey_keyS {r : Ro} {z : Str} : bkey r (keyS (bkey r z)) = bkey r z := by rw [keyS_bkey]
/-- the entries found so far -/
structure AccC (w : Wo) (r : Ro) (ps : List (Key × Val)) (ns : List Str) : Prop where
  nd : ((pK ps).map keyS).Nodup
  nm : ∀ k ∈ pK ps, ∃ z, k = .inr z
  ok : ∀ q ∈ ps, valC w r q.2 ∧ (isNonV q.2 = true → w.nulls ≠ "skip")
  pw : w.order = "rising" → ((pK ps).map keyS ++ ns).Pairwise (fun x y => ltS y x = false)
theorem AccC.put {w : Wo} {r : Ro} {ps : List (Key × Val)} {ns : List Str} {n : Str} {v : Val} (h : AccC w r ps (n :: ns)) (hv : valC w r v ∧ (isNonV v = true → w.nulls ≠ "skip")) : AccC w r (putP (.inr n) v ps) ns := by
  have hk : pK (putP (.inr n) v ps) = if hasK (.inr n) (pK ps) = true then pK ps else pK ps ++ [.inr n] := by
    rw [putP_keys]; unfold kputN; rfl
  by_cases c : hasK (.inr n) (pK ps) = true
  · rw [if_pos c] at hk
    refine ⟨by rw [hk]; exact h.nd, by rw [hk]; exact h.nm, fun q hq => ?_, fun hr => ?_⟩
    · unfold putP at hq
      rw [if_pos c] at hq
      obtain ⟨q', hq', rfl⟩ := List.mem_map.mp hq
      dsimp only
      split
      · exact hv
      · exact h.ok q' hq'
    · rw [hk]
      exact (h.pw hr).sublist (List.Sublist.append (List.Sublist.refl _) (List.sublist_cons_self ..))
  · rw [if_neg c] at hk
    refine ⟨?_, ?_, fun q hq => ?_, fun hr => ?_⟩
    · rw [hk, List.map_append, List.nodup_append]
      refine ⟨h.nd, by simp, fun a ha b hb e => ?_⟩
      rw [List.map_singleton, List.mem_singleton] at hb
      subst e
      obtain ⟨k, hk', e2⟩ := List.mem_map.mp ha
      obtain ⟨z, rfl⟩ := h.nm k hk'
      have : z = n := e2.trans hb
      subst this
      exact c (hasK_iff.mpr hk')
    · rw [hk]
      intro k hk'
      rcases List.mem_append.mp hk' with hk' | hk'
      · exact h.nm k hk'
      · exact ⟨n, List.mem_singleton.mp hk'⟩
    · unfold putP at hq
      rw [if_neg c] at hq
      rcases List.mem_append.mp hq with hq | hq
      · exact h.ok q hq
      · rw [List.mem_singleton.mp hq]; exact hv
    · rw [hk, List.map_append, List.append_assoc]
      exact h.pw hr
theorem AccC.skip {w : Wo} {r : Ro} {ps : List (Key × Val)} {ns : List Str} {n : Str} (h : AccC w r ps (n :: ns)) : AccC w r ps ns :=
  ⟨h.nd, h.nm, h.ok, fun hr => (h.pw hr).sublist (List.Sublist.append (List.Sublist.refl _) (List.sublist_cons_self ..))⟩
theorem bfin_valC {w : Wo} {r : Ro} {ps : List (Key × Val)} (h : AccC w r ps []) : valC w r (bfin r ps) := by
  unfold bfin tabV
  generalize hl : ps.filter (fun q => !isNonV q.2 || decide (r.nulls = "keep")) = l
  have sb : l.Sublist ps := hl ▸ List.filter_sublist
  have ek : pK (l.map fun q => (bkey r (keyS q.1), q.2)) = (l.map (·.1)).map fun k => bkey r (keyS k) := by unfold pK; rw [List.map_map, List.map_map]; rfl
  have ev : pV (l.map fun q => (bkey r (keyS q.1), q.2)) = l.map (·.2) := by unfold pV; rw [List.map_map]; rfl
  have ek2 : (pK (l.map fun q => (bkey r (keyS q.1), q.2))).map keyS = (pK l).map keyS := by
    rw [ek, List.map_map]
    unfold pK
    apply List.map_congr_left
    intro k _
    exact keyS_bkey
  refine ⟨?_, ?_, ?_, ?_, ?_⟩
  · rw [ev]
    refine valCL_iff.mpr fun v hv => ?_
    obtain ⟨q, hq, rfl⟩ := List.mem_map.mp hv
    exact (h.ok q (sb.subset hq)).1
  · rw [ev]
    intro v hv hn
    obtain ⟨q, hq, rfl⟩ := List.mem_map.mp hv
    refine ⟨(h.ok q (sb.subset hq)).2 hn, ?_⟩
    rw [← hl] at hq
    have := (List.mem_filter.mp hq).2
    rw [hn] at this
    simpa using this
  · rw [ek]
    intro k hk
    obtain ⟨j, _, rfl⟩ := List.mem_map.mp hk
    exact bkey_keyS
  · rw [ek2]
    exact h.nd.sublist ((sb.map _).map _)
  · intro hr
    have := h.pw hr
    rw [List.append_nil] at this
    have t2 := this.sublist ((sb.map (·.1)).map keyS)
    rw [show (l.map (·.1)).map keyS = (pK l).map keyS from rfl, ← ek2, List.pairwise_map] at t2
    exact t2
mutual
theorem bld_valC {w : Wo} {r : Ro} : ∀ (x : RawV) (p : List Key) (v : Val), rawC w x → bldR r x p = .ok v → valC w r v ∧ (isNonV v = true → x = .non)
  | .non, p, v, _, e => by cases e; exact ⟨trivial, fun _ => rfl⟩
  | .bl b, p, v, _, e => by cases e; exact ⟨trivial, fun h => nomatch h⟩
  | .str z, p, v, _, e => by cases e; exact ⟨trivial, fun h => nomatch h⟩
  | .int i, p, v, h, e => by cases e; exact ⟨h, fun h => nomatch h⟩
  | .row xs, p, v, h, e => by
    rw [bldR] at e
    split at e
    · cases e
    · rename_i vs hv
      have := bldL_valC xs 0 p vs h hv
      cases e
      split
      · rename_i c; exact ⟨⟨c, this⟩, fun h => nomatch h⟩
      · rename_i c; exact ⟨⟨c, this⟩, fun h => nomatch h⟩
  | .tab ns xs, p, v, h, e => by
    rw [bldR] at e
    split at e
    · cases e
    · rename_i ps hp
      cases e
      refine ⟨bfin_valC (bldT_valC ns xs p [] ps h.1 h.2.1 ⟨List.nodup_nil, (fun _ h => nomatch h), (fun _ h => nomatch h), fun hr => h.2.2 hr⟩ hp), fun h => nomatch h⟩
theorem bldL_valC {w : Wo} {r : Ro} : ∀ (xs : List RawV) (i : Nat) (p : List Key) (vs : List Val), rawCL w xs → bldL r xs i p = .ok vs → valCL w r vs
  | [], i, p, vs, _, e => by rw [bldL] at e; cases e; trivial
  | x :: xs, i, p, vs, h, e => by
    rw [bldL] at e
    split at e
    · cases e
    · rename_i v hv
      split at e
      · cases e
      · rename_i us hu
        cases e
        exact ⟨(bld_valC x _ v h.1 hv).1, bldL_valC xs _ p us h.2 hu⟩
theorem bldT_valC {w : Wo} {r : Ro} : ∀ (ns : List Str) (xs : List RawV) (p : List Key) (acc ps : List (Key × Val)), rawCL w xs → (w.nulls = "skip" → ∀ x ∈ xs, x ≠ .non) → AccC w r acc ns → bldT r ns xs p acc = .ok ps → AccC w r ps []
  | [], xs, p, acc, ps, _, _, ha, e => by
    have : bldT r [] xs p acc = .ok acc := by cases xs <;> rw [bldT] <;> (intros; simp_all)
    rw [this] at e; cases e; exact ha
  | n :: ns, [], p, acc, ps, _, _, ha, e => by
    have : bldT r (n :: ns) [] p acc = .ok acc := by rw [bldT]; intros; simp_all
    rw [this] at e; cases e
    exact ⟨ha.nd, ha.nm, ha.ok, fun hr => by rw [List.append_nil]; exact (ha.pw hr).sublist (List.sublist_append_left ..)⟩
  | n :: ns, x :: xs, p, acc, ps, h, hn, ha, e => by
    rw [bldT] at e
    split at e
    · cases e
    · split at e
      · cases e
      · rename_i v hv
        obtain ⟨c1, c2⟩ := bld_valC x _ v h.1 hv
        refine bldT_valC ns xs p _ ps h.2 (fun hs y hy => hn hs y (List.mem_cons_of_mem _ hy)) ?_ e
        split
        · exact ha.put ⟨c1, fun z hs => hn hs x (List.mem_cons_self ..) (c2 z)⟩
        · exact ha.skip
end
/-! #### and once more -/
def Again (w : Wo) (r : Ro) (v : Val) : Prop := ∀ n p, vdepth v < n → ∃ x, wrt w n v p = .ok x ∧ ∀ q, bldR r x q = .ok v
theorem again_row {w : Wo} {r : Ro} {n : Nat} : ∀ (vs : List Val) (i : Nat) (p : List Key), (∀ v ∈ vs, Again w r v) → vdepthL vs < n → ∃ xs, wL (wrt w n) vs i p = .ok xs ∧ ∀ j q, bldL r xs j q = .ok vs
  | [], i, p, _, _ => ⟨[], rfl, fun j q => by rw [bldL]⟩
  | v :: vs, i, p, h, hd => by
    have hd : max (vdepth v) (vdepthL vs) < n := hd
    obtain ⟨x, e1, e2⟩ := h v (List.mem_cons_self ..) n (p ++ [.inl i]) (by omega)
    obtain ⟨xs, g1, g2⟩ := again_row (n := n) vs (i + 1) p (fun u hu => h u (List.mem_cons_of_mem _ hu)) (by omega)
    refine ⟨x :: xs, by rw [wL, e1]; dsimp only; rw [g1], fun j q => ?_⟩
    rw [bldL, e2]; dsimp only; rw [g2]
theorem again_ent {w : Wo} {r : Ro} {n : Nat} : ∀ (ps : List (Key × Val)) (p : List Key) (acc : List Str), (∀ q ∈ ps, Again w r q.2 ∧ vdepth q.2 < n) → (ps.map fun q => keyS q.1).Nodup → (∀ q ∈ ps, keyS q.1 ∉ acc) →
    ∃ ws, wP (wrt w n) w ps p acc = .ok ws ∧ ∀ q acc', (∀ z ∈ ps, (.inr (keyS z.1) : Key) ∉ pK acc') → bldT r (ws.map (·.1)) (ws.map (·.2)) q acc' = .ok (acc' ++ ps.map fun z => (.inr (keyS z.1), z.2))
  | [], p, acc, _, _, _ => ⟨[], rfl, fun q acc' _ => by rw [List.map_nil, List.map_nil, List.map_nil, List.append_nil]; rw [bldT] <;> (intros; simp_all)⟩
  | z :: ps, p, acc, h, nd, na => by
    rw [List.map_cons, List.nodup_cons] at nd
    obtain ⟨a1, a2⟩ := h z (List.mem_cons_self ..)
    obtain ⟨x, e1, e2⟩ := a1 n (p ++ [z.1]) a2
    obtain ⟨ws, g1, g2⟩ := again_ent ps p (acc ++ [keyS z.1]) (fun u hu => h u (List.mem_cons_of_mem _ hu)) nd.2 (fun q hq m => by
      rcases List.mem_append.mp m with m | m
      · exact na q (List.mem_cons_of_mem _ hq) m
      · exact nd.1 (List.mem_singleton.mp m ▸ List.mem_map.mpr ⟨q, hq, rfl⟩))
    refine ⟨(keyS z.1, x) :: ws, ?_, fun q acc' hn => ?_⟩
    · rw [wP, if_neg (fun c => na z (List.mem_cons_self ..) c.1), e1]; dsimp only; rw [g1]
    · have n0 : hasK (.inr (keyS z.1)) (pK acc') = false := by
        rw [← Bool.not_eq_true, hasK_iff]
        exact hn z (List.mem_cons_self ..)
      rw [List.map_cons, List.map_cons, bldT, if_neg (fun c => by rw [n0] at c; cases c.1), e2]
      dsimp only
      rw [if_pos (.inl n0), putP_new (hn z (List.mem_cons_self ..)), g2]
      · rw [List.map_cons, List.append_assoc]; rfl
      · intro y hy m
        have : pK (acc' ++ [((.inr (keyS z.1) : Key), z.2)]) = pK acc' ++ [.inr (keyS z.1)] := by unfold pK; rw [List.map_append]; rfl
        rw [this] at m
        rcases List.mem_append.mp m with m | m
        · exact hn y (List.mem_cons_of_mem _ hy) m
        · have := Sum.inr.inj (List.mem_singleton.mp m)
          exact nd.1 (this ▸ List.mem_map.mpr ⟨y, hy, rfl⟩)
theorem wK_keeps {o : Wo} : ∀ ps : List (Key × Val), (∀ q ∈ ps, ¬ (isNonV q.2 = true ∧ o.nulls = "skip") ∧ (isInl q.1 = true → o.keys = "text")) → wK o ps = .ok ps
  | [], _ => rfl
  | q :: ps, h => by
    obtain ⟨h1, h2⟩ := h q (List.mem_cons_self ..)
    rw [wK, if_neg h1, wK_keeps ps fun z hz => h z (List.mem_cons_of_mem _ hz)]
    by_cases c : isInl q.1 = true
    · rw [if_neg (fun z => by rw [h2 c] at z; simp [ofS_inj] at z)]
      dsimp only
      rw [if_pos (.inr (h2 c))]
    · rw [if_neg (fun z => c z.1)]
      dsimp only
      rw [if_pos (.inl (Bool.eq_false_iff.mpr c))]
theorem bkey_inl {r : Ro} {k : Key} (h : bkey r (keyS k) = k) (c : isInl k = true) : r.dig = "number" := by
  unfold bkey at h
  split at h
  · rename_i z; exact z.1
  · rw [← h] at c; cases c
mutual
theorem clean_again {w : Wo} {r : Ro} (hd : r.dig = "number" → w.keys = "text") (ht : r.lists = "tuple" → w.tups ≠ "refuse") : ∀ v, VOk v → valC w r v → Again w r v
  | .non, _, _ => fun n p h => by cases n with | zero => exact absurd h (Nat.not_lt_zero _) | succ n => exact ⟨.non, rfl, fun q => by rw [bldR]⟩
  | .bl b, _, _ => fun n p h => by cases n with | zero => exact absurd h (Nat.not_lt_zero _) | succ n => exact ⟨.bl b, rfl, fun q => by rw [bldR]⟩
  | .str z, _, _ => fun n p h => by cases n with | zero => exact absurd h (Nat.not_lt_zero _) | succ n => exact ⟨.str z, rfl, fun q => by rw [bldR]⟩
  | .int i, _, c => fun n p h => by
    cases n with
    | zero => exact absurd h (Nat.not_lt_zero _)
    | succ n =>
      refine ⟨.int i, ?_, fun q => by rw [bldR]⟩
      show wI w i p = _
      unfold wI
      rw [if_neg (fun z => z.2 (c z.1))]
  | .lst vs, ov, c => fun n p h => by
    cases n with
    | zero => exact absurd h (Nat.not_lt_zero _)
    | succ n =>
      have h : 1 + vdepthL vs < n + 1 := h
      obtain ⟨xs, e1, e2⟩ := again_row (n := n) vs 0 p (clean_all hd ht vs ov c.2) (by omega)
      refine ⟨.row xs, by show wR (wrt w n) vs p = _; unfold wR; rw [e1], fun q => ?_⟩
      rw [bldR, e2]; dsimp only; rw [if_neg c.1]
  | .tup vs, ov, c => fun n p h => by
    cases n with
    | zero => exact absurd h (Nat.not_lt_zero _)
    | succ n =>
      have h : 1 + vdepthL vs < n + 1 := h
      obtain ⟨xs, e1, e2⟩ := again_row (n := n) vs 0 p (clean_all hd ht vs ov c.2) (by omega)
      refine ⟨.row xs, ?_, fun q => ?_⟩
      · show (if w.tups = "refuse" then (.error ("tuple", p) : Except WErr RawV) else wR (wrt w n) vs p) = _
        rw [if_neg (ht c.1)]; unfold wR; rw [e1]
      · rw [bldR, e2]; dsimp only; rw [if_pos c.1]
  | .tab ks vs, ov, c => fun n p h => by
    cases n with
    | zero => exact absurd h (Nat.not_lt_zero _)
    | succ n =>
      have h : 1 + vdepthL vs < n + 1 := h
      obtain ⟨c1, c2, c3, c4, c5⟩ := c
      have l : ks.length = vs.length := ov.2.1
      have ek : (ks.zip vs).map (·.1) = ks := List.map_fst_zip (by omega)
      have evv : (ks.zip vs).map (·.2) = vs := List.map_snd_zip (by omega)
      have ekk : (ks.zip vs).map (fun q => keyS q.1) = ks.map keyS := by
        conv => rhs; rw [← ek]
        rw [List.map_map]; rfl
      have all := clean_all hd ht vs ov.1 c1
      have mem : ∀ q ∈ ks.zip vs, q.1 ∈ ks ∧ q.2 ∈ vs := fun q hq => List.of_mem_zip (show (q.1, q.2) ∈ _ from hq)
      have k1 : wK w (ks.zip vs) = .ok (ks.zip vs) := wK_keeps _ fun q hq => ⟨fun z => (c2 q.2 (mem q hq).2 z.1).1 z.2, fun z => hd (bkey_inl (c3 q.1 (mem q hq).1) z)⟩
      have k2 : wS w (ks.zip vs) = ks.zip vs := by
        unfold wS
        split
        · rename_i hr
          have := c5 hr
          rw [← ek, List.pairwise_map] at this
          exact isort_id this
        · rfl
      obtain ⟨ws, g1, g2⟩ := again_ent (w := w) (r := r) (n := n) (ks.zip vs) p [] (fun q hq => ⟨all q.2 (mem q hq).2, by have := (wdL_mem (mem q hq).2).1; omega⟩) (by rw [ekk]; exact c4) (fun _ _ h => nomatch h)
      refine ⟨.tab (ws.map (·.1)) (ws.map (·.2)), by rw [wrt_tab]; unfold wT; rw [k1]; dsimp only; rw [k2, g1], fun q => ?_⟩
      rw [bldR, g2 q [] (fun _ _ h => nomatch h)]
      dsimp only
      rw [List.nil_append]
      unfold bfin
      have f1 : ((ks.zip vs).map fun z => ((.inr (keyS z.1) : Key), z.2)).filter (fun q => !isNonV q.2 || decide (r.nulls = "keep")) = (ks.zip vs).map fun z => ((.inr (keyS z.1) : Key), z.2) := by
        refine List.filter_eq_self.mpr fun q hq => ?_
        obtain ⟨z, hz, rfl⟩ := List.mem_map.mp hq
        dsimp only
        cases hn : isNonV z.2 with
        | false => rfl
        | true => rw [decide_eq_true (c2 z.2 (mem z hz).2 hn).2]; rfl
      rw [f1, List.map_map]
      have f2 : (ks.zip vs).map ((fun q : Key × Val => (bkey r (keyS q.1), q.2)) ∘ fun z => ((.inr (keyS z.1) : Key), z.2)) = ks.zip vs := by
        conv => rhs; rw [← List.map_id (ks.zip vs)]
        refine List.map_congr_left fun z hz => ?_
        show (bkey r (keyS z.1), z.2) = z
        rw [c3 z.1 (mem z hz).1]
      rw [f2]
      unfold tabV pK pV
      rw [ek, evv]
theorem clean_all {w : Wo} {r : Ro} (hd : r.dig = "number" → w.keys = "text") (ht : r.lists = "tuple" → w.tups ≠ "refuse") : ∀ vs, VOkL vs → valCL w r vs → ∀ v ∈ vs, Again w r v
  | [], _, _ => fun _ h => nomatch h
  | v :: vs, ov, c => fun u hu => by
    rcases List.mem_cons.mp hu with e | hu
    · rw [e]; exact clean_again hd ht v ov.1 c.1
    · exact clean_all hd ht vs ov.2 c.2 u hu
end
theorem crry_get {w : Wo} {r : Ro} {v u : Val} (h : crry w r v = .ok u) : ∃ x, wrt w 62 v [] = .ok x ∧ bldR r x [] = .ok u := by
  unfold crry at h
  split at h
  · cases h
  · rename_i x e
    split at h
    · cases h
    · rename_i u' e2
      cases h
      exact ⟨x, e, e2⟩
theorem crry_mk {w : Wo} {r : Ro} {v u : Val} {x : RawV} (h : wrt w 62 v [] = .ok x) (g : bldR r x [] = .ok u) : crry w r v = .ok u := by
  unfold crry; rw [h]; dsimp only; rw [g]
theorem crry_clean {w : Wo} {r : Ro} {v u : Val} (dv : vdepth v ≤ 60) (h : crry w r v = .ok u) : valC w r u := by
  obtain ⟨x, e1, e2⟩ := crry_get h
  exact (bld_valC x [] u (wrt_raw 62 v [] x (by omega) e1) e2).1
/-- a settled passage: what comes back comes back as it is -/
theorem settled {w : Wo} {r : Ro} (hd : r.dig = "number" → w.keys = "text") (ht : r.lists = "tuple" → w.tups ≠ "refuse") {v u : Val} (ov : VOk v) (dv : vdepth v ≤ 60) (h : crry w r v = .ok u) : crry w r u = .ok u := by
  obtain ⟨a, b, _⟩ := crry_ok ov dv h
  obtain ⟨x, e1, e2⟩ := clean_again hd ht u a (crry_clean dv h) 62 [] (by omega)
  exact crry_mk e1 (e2 [])
/-! #### which passages are not settled -/
end KQ
namespace KQ
open PySem PySem.Spec PyProof.Rows L2 TL KB
/-! ### sorted(xs) of texts, any number of them -/
section
variable {prog : Program} {w : World} {A : Around} {E : Value → Shared → Prop} {s : Shared}
end
/-! ### k32's test of what came back -/
theorem in_trues {α : Type} (l : List α) : gIn true (.bl false) (.lst (l.map fun _ => Tr.bl true)) (.bl true) := by
  have e : flatTs (l.map fun _ => Tr.bl true) = some (l.map fun _ => V.bl true) := by
    induction l with
    | nil => rfl
    | cons x xs ih => rw [List.map_cons, List.map_cons, flatTs, ih]; rfl
  refine ⟨.bl false, _, rfl, e, ?_⟩
  have : inV (.bl false) (l.map fun _ => V.bl true) = false := by
    unfold inV
    rw [Bool.eq_false_iff]
    intro h
    obtain ⟨y, hy, h⟩ := List.any_eq_true.mp h
    obtain ⟨_, _, rfl⟩ := List.mem_map.mp hy
    exact absurd h (by decide)
  rw [this]; rfl
end KQ
namespace KQ
open PySem PySem.Spec PyProof.Rows L2 TL KB
/-! ### what can come back as one (k85) -/
mutual
def inv : Val → Val
  | .non => .non
  | .bl b => .bl b
  | .int i => .int i
  | .str z => .str z
  | .lst vs => .lst (invL vs)
  | .tup vs => .lst (invL vs)
  | .tab ks vs => .tab (ks.map fun k => .inr (keyS k)) (invL vs)
def invL : List Val → List Val
  | [] => []
  | v :: vs => inv v :: invL vs
end
/-! #### the pairs -/
/-! #### what each pair tells -/
section
variable {w : Wo} {r : Ro} (wo : WoOk w)
end
/-! #### the law's plain side -/
end KQ
namespace KQ
open PySem PySem.Spec PyProof.Rows L2 TL KB
/-! ### == of a tuple whose items are cells (k39) -/
section
variable {X : Cx} {K : PySem.W.Frag} {W : WX} {L : Lk} {F H I : Hp} {S : Sto}
end
end KQ
namespace KQ
open PySem PySem.Spec PyProof.Rows L2 TL KB
/-! ### C(e, .., k = v, ..): a class with a plain __init__, called by keywords in the parameters' order (k50, k97) -/
def uNewP (n m : Nat) (t : TSp) (ta tk : UA) : UE := fun ρ S Q X => ta ρ S (fun xs S1 => tk ρ S1 (fun zs S2 => xs.length = n ∧ zs.length = m ∧ t (xs ++ zs) S2 Q X) X) X
theorem q_uNewP {n m : Nat} {t : TSp} {ta tk : UA} {ρ : Rho} {S : Sto} {Q : QV} {X : QX} : uNewP n m t ta tk ρ S Q X = (ta ρ S (fun xs S1 => tk ρ S1 (fun zs S2 => xs.length = n ∧ zs.length = m ∧ t (xs ++ zs) S2 Q X) X) X) := rfl
section
variable {X : Cx} {W : WX} {k n : Nat} {x qual : Str} {C : Addr} {st : Stmt} {dvs : List V} {ks : List Str} {t : TSp} {kl : List Keyword} {e : Expr} {es : List Expr} {ta tk : UA} {p pos : Pos}
end
/-! ### x in l where both are data of any depth -/
/-! ### a list repeated that will change -/
def uRepC (ta tb : UE) : UE := fun ρ S Q X => ta ρ S (fun x S1 => tb ρ S1 (fun y S2 => ∃ xs k, vw S2 x = .lst xs ∧ vw S2 y = .int k ∧ -(2 ^ 63) ≤ k ∧ k < 2 ^ 63 ∧ xs.length * k.toNat ≤ sizeLine ∧ ∀ p, S2 p = none → Q (.ref p) (put S2 p (.lst (List.replicate k.toNat xs).flatten))) X) X
theorem q_uRepC {ta tb : UE} {ρ : Rho} {S : Sto} {Q : QV} {X : QX} : uRepC ta tb ρ S Q X = (ta ρ S (fun x S1 => tb ρ S1 (fun y S2 => ∃ xs k, vw S2 x = .lst xs ∧ vw S2 y = .int k ∧ -(2 ^ 63) ≤ k ∧ k < 2 ^ 63 ∧ xs.length * k.toNat ≤ sizeLine ∧ ∀ p, S2 p = none → Q (.ref p) (put S2 p (.lst (List.replicate k.toNat xs).flatten))) X) X) := rfl
end KQ
namespace KQ
open PySem PySem.Spec PyProof.Rows L2 TL KB
section
variable {fb : PySem.W.Frag → List Bool} {fn : List He5.DefA} {K : PySem.W.Frag}
theorem SaysB.fact (c : SaysB fb fn K) (i : Nat) {b : Bool} (h : (fb K)[i]? = some b) : b = true := by
  have c1 := (He.ba (show ((fb K).all id && fn.all fun d => d.ok K) = true from congrArg (fun z : AlB => z.1) c)).1
  exact List.all_eq_true.mp c1 b (List.mem_of_getElem? h)
theorem SaysB.at (c : SaysB fb fn K) (i : Nat) {p : Prop} [d : Decidable p] (h : (fb K)[i]? = some (decide p)) : p := of_decide_eq_true (c.fact i h)
theorem SaysB.def_ (c : SaysB fb fn K) (i : Nat) {d : He5.DefA} (h : fn[i]? = some d) : ∃ fd, FunD K d.name d.qual d.params d.body d.scope (d.dvs K) (d.kws K) (d.at_ K) fd := by
  have c2 := (He.ba (show ((fb K).all id && fn.all fun d => d.ok K) = true from congrArg (fun z : AlB => z.1) c)).2
  have e : fn.map (fun d => He5.fnA K (d.at_ K)) = fn.map He5.DefA.val := congrArg (fun z : AlB => z.2) c
  have e2 : (fn.map fun d => He5.fnA K (d.at_ K))[i]? = (fn.map He5.DefA.val)[i]? := by rw [e]
  rw [List.getElem?_map, List.getElem?_map, h] at e2
  exact He5.DefA.funD (Option.some.inj e2) (List.all_eq_true.mp c2 d (List.mem_of_getElem? h))
end
theorem oexB_ok {K : PySem.W.Frag} {C : Addr} (q : oexB K C = true) : ∃ nm q N bs bm sn sub ab col dd k0 k1 k2 k3 k5, K.lookup C = some (excClassObj nm q C N bs bm true sn sub ab col dd k0 k1 k2 k3 k5 "ValueError.__new__") ∧ PySem.HandSPX.refsVE bm = true := by
  unfold oexB at q
  split at q
  · rename_i dd cd sl ho
    split at q
    · rename_i C' bm k0 k1 k2 k3 n k5 hm hs
      simp only [Bool.and_eq_true, beq_iff_eq, Bool.not_eq_true'] at q
      obtain ⟨⟨⟨⟨rfl, rfl⟩, hdel⟩, hdc⟩, ht⟩ := q
      obtain ⟨nm, bs, mro, ns, qn, hd, sn, sub, ab, col, del⟩ := cd
      dsimp only at hm hdel hdc
      subst hm hdel hdc
      have hsl : sl = #[k0, k1, k2, k3, some (.builtin "ValueError.__new__"), k5] := by
        obtain ⟨l⟩ := sl
        simp only at hs
        rw [hs]
      subst hsl
      exact ⟨nm, qn, ns, bs, bm, sn, sub, ab, col, dd, k0, k1, k2, k3, k5, ho, ht⟩
    · cases q
  · cases q
theorem fun_of {K : PySem.W.Frag} {x q : Str} {st : Stmt} {f : Addr} {fd : FuncData} (F : FunD K x q (defArgs st) (defBody st) (defScope st) [] [] f fd) : Fun K x q st f fd := by
  obtain ⟨⟨oc, od, dV, kV, doc, pm, an, cdv, ct, osl, e, lk, hc, hd, hk⟩, kp⟩ := F
  rcases hd with ⟨_, rfl⟩ | ⟨h, _⟩
  · exact ⟨⟨oc, od, kV, doc, pm, an, cdv, ct, osl, e, lk, hc⟩, kp⟩
  · exact absurd rfl h
/-! constants of the module -/
mutual
def Cs.tr : Cs → Tr
  | .non => .non
  | .bl b => .bl b
  | .int n => .int n
  | .str z => .str z
  | .tup xs => .tup (Cs.trs xs)
def Cs.trs : List Cs → List Tr
  | [] => []
  | x :: xs => x.tr :: Cs.trs xs
end
/-- a law's end over a head by facts, what it may let out by the world -/
theorem walk_ofW {l : PySem.W.OpenLaw} {n k : Nat} {q : Program} {loose : List Str} {XP : (Str → Option Value) → Heap → Prop} {YP : World → Heap → Prop} {d : DefRec} {CX : World → CXT} {x : Str}
    (hn : l.most = some n) (hn2 : n ≤ sizeLine) (hdf : d.params.defaults = []) (hr : Room k callerA)
    (F : ∀ (w : World) (mg : Str → Option Value) (fa : Addr) (h : Heap), YP w h → h.Ns mainGlobals mg → mg d.name = some (.ref fa) →
      ∃ (K : PySem.W.Frag) (fd : FuncData) (sp : Sp), K.In h ∧ (∀ (s : Shared) (u : Value), BindsTo s fd ⟨[u], []⟩ [(x, u)]) ∧
        (∀ (H : Hp) (a : Addr) (ns : List Int), ns.length ≤ n → Only H → SqL K H a (ns.map V.int) → sp [.ref a] H (fun v _ => v = .bl true) fun _ _ _ => False) ∧
        ∀ base : Heap, K.In base → base.Ns mainGlobals mg → FnOk l.prog w K mg base (CX w) k fa fd [x] sp)
    (hCX : ∀ (w : World) (H : Hp) (s : Shared) (e : Value) (s' : Shared), CX w [] H s (fun _ _ _ => False) e s' → False) :
    PySem.W.WalkO q loose XP YP l.row.toRowW d [] (fun f vs => PySem.call f vs) := by
  refine Att.attach_call hn hdf fun w s₀ s₁ mg mb fa o pm cd doc a vs ns G Y ho hd hcd hmg hobj hints hlen hg => ?_
  obtain ⟨K, fd, sp, KX, hb, hsp, hF⟩ := F w mg fa _ Y G.T.g hmg
  exact law_call KX G.T.g G.T.b G.T.builtins G.T.nolimit hg hobj hints (Nat.le_trans hlen hn2) hr hF hb (fun H hO hS => hsp H a ns hlen hO hS) fun H e s' => hCX w H s₁ e s'
end KQ
namespace KQ
open PySem PySem.Spec PyProof.Rows L2 TL KB
/-! ### exceptions as values (k98): C(e, ..), x.f, isinstance(x, C) -/
def xvT (K : PySem.W.Frag) (C : Addr) (fs : List Str) (xs : List Tr) : Tr := .sem (fun I a o => ∃ d vs, o = exo a C (some d) ∧ I d = some (exd d (fs.zip vs)) ∧ fs.length = xs.length ∧ RepL K I xs vs)
theorem vw_xvT {S : Sto} {K : PySem.W.Frag} {C : Addr} {fs : List Str} {xs : List Tr} : vw S (xvT K C fs xs) = xvT K C fs xs := rfl
theorem xvT_rep {K : PySem.W.Frag} {L : Lk} {F H I : Hp} {S : Sto} {C : Addr} {fs : List Str} {xs : List Tr} {v : V} (hd : Hd K L F H S I) (r : Rep K I (xvT K C fs xs) v) : ∃ a d vs, v = .ref a ∧ H a = some (exo a C (some d)) ∧ H d = some (exd d (fs.zip vs)) ∧ fs.length = xs.length ∧ RepL K I xs vs := by
  obtain ⟨a, o, rfl, h1, h2⟩ := r
  obtain ⟨d, vs, rfl, h3, h4, h5⟩ := h2 I (Same.refl _)
  have no : ∀ b u, I b = some u → (∀ kvs, u ≠ .dK kvs) → H b = some u := fun b u e n => by
    have q := hd.sub b u e
    cases el : L b with
    | none => rw [el] at q; exact q
    | some od => obtain ⟨kv, z⟩ := hd.lck b od el; rw [e] at z; exact absurd (Option.some.inj z) (n kv)
  exact ⟨a, d, vs, rfl, no a _ h1 (fun kvs z => by have z' : HO.ext _ = HO.dK kvs := z; cases z'), no d _ h3 (fun kvs z => by have z' : HO.ext _ = HO.dK kvs := z; cases z'), h4, h5⟩
def tMkV (C : Addr) (sp : Sp) (dvs : List V) (ta : TA) : TE := fun σ H Q => ta σ H fun vs H1 => vs.length ≤ 1000 ∧ ∀ a, H1 a = none → sp (.ref a :: (vs ++ dvs)) (upd H1 a (exo a C none)) (fun v H2 => v = .non ∧ Q (.ref a) H2) (fun _ _ _ => False)
theorem pe_mkX {X : Cx} {e : Expr} {es : List Expr} {ta : TA} {pos p : Pos} {CX : CXT} {x : Str} {C fI : Addr} {k : Nat} {fd : FuncData} {ps : List Str} {sp : Sp} {ds : List Value} {dvs : List V} (T : OexC X.K C) (iC : PySem.W.findIn X.K (.ref C) "__init__" = some (some (.ref fI))) (tI : PySem.W.typeIn X.K (.ref fI) = some (.type "function"))
    (F1 : FnOk X.prog X.w X.K X.mg X.base CX k fI fd ps sp) (hr : Room (k + 1) X.A) (hb : Binds X.K fd ps ds) (hd : Vals dvs ds) (hx : Passes CX X (fun _ _ _ => False)) (hg : Gl X x) (hm : X.mg x = some (.ref C)) (ha : PA X (e :: es) ta)
    (hdb : (x == ("__debug__" : Str)) = false := by decide) (he : starEach (e :: es) X.env = (false, eval e X.env) :: starEach es X.env := by rfl) (hpl : (backTo pos (starEach es X.env)).any (·.1) = false := by rfl) :
    PE X (.Call (.Name x p) (e :: es) [] pos) (tMkV C sp dvs ta) := by
  refine ⟨fun pins s σ H Q I h => ?_⟩
  obtain ⟨nm, q, N, bs, bm, sn, sub, ab, col, dd, k0, k1, k2, k3, k5, hC, hbm⟩ := T.cls
  refine wpAny_Call_Name_kw (ld_glob I hg hm ?_ hdb)
  refine PySem.W.callWith_K (h₀ := X.base) I.ok.mod.kin T.kC (thn (ha.run pos pins s σ H _ I h) fun us s1 ⟨vs, H1, I1, r1, hz, q1⟩ => ⟨I1.kIn, ?_⟩) he hpl
  show wpAny _ _ (call (.ref C) us) _ _ _
  obtain ⟨hp, g, dr, tk, os⟩ := s1
  have hsz : hp.objs.size ≤ hp.objs.size + 1 := Nat.le_succ _
  have hn : H1 (hp.objs.size + 1) = none := I1.hok.fresh hsz
  have hq := q1 (hp.objs.size + 1) hn
  have kk : ∀ b o, hp.get? b = some o → ((hp.push (PySem.W.kdv_tup us)).push (PySem.HandSPX.excO C hp.objs.size)).get? b = some o := fun b o e => Heap.get?_push_of_some _ (Heap.get?_push_of_some _ e)
  have hget : ((hp.push (PySem.W.kdv_tup us)).push (PySem.HandSPX.excO C hp.objs.size)).get? (hp.objs.size + 1) = some (PySem.HandSPX.excO C hp.objs.size) := by heap_get
  have I2 : Inv X pins σ (upd H1 (hp.objs.size + 1) (exo (hp.objs.size + 1) C none)) ⟨(hp.push (PySem.W.kdv_tup us)).push (PySem.HandSPX.excO C hp.objs.size), g, dr, tk, os⟩ :=
    I1.laid (t' := tk) (a := hp.objs.size + 1) (o := exo (hp.objs.size + 1) C none) (h' := (hp.push (PySem.W.kdv_tup us)).push (PySem.HandSPX.excO C hp.objs.size)) kk hsz (exo_ok hget)
  have r2 : Vals (V.ref (hp.objs.size + 1) :: (vs ++ dvs)) (Value.ref (hp.objs.size + 1) :: (us ++ ds)) := .cons rfl (r1.append hd)
  have hl : (Value.ref (hp.objs.size + 1) :: us ++ ds).length = ps.length := by
    have e := r2.length
    rw [F1.len _ _ _ _ hq] at e
    exact e.symm
  have hus : us.length ≤ sizeLine := by
    rw [← Paired.length r1, sizeLine_eq]
    omega
  refine wpAny_call (PySem.HandSPX.call_own F.excBase_ValueError (fun Y => PySem.HandSPX.refsVE_contains Y bm hbm) (I1.kIn _ _ hC) (PySem.W.looks_findIn I1.kIn iC) (fun self => PySem.W.bind_fn I1.kIn self tI) hus
    (codeAny_mono (F1.run _ X.stack _ _ ⟨Value.ref (hp.objs.size + 1) :: us, []⟩ (Value.ref (hp.objs.size + 1) :: (us ++ ds)) _ _ (fun _ _ _ => False) (hr.make C us []) (I2.env0.make C us []) (hb _ (Value.ref (hp.objs.size + 1) :: us) I2.kIn hl) r2 hq) fun r s' hq' => ?_))
  cases r with
  | error er => exact hx pins σ _ _ er s' I2 hq'
  | ok fl =>
    cases fl with
    | ret u =>
      obtain ⟨v, H', I4, rv, ev, q3⟩ := I2.after hq'
      subst ev
      exact ⟨rv, ⟨V.ref (hp.objs.size + 1), H', I4, rfl, q3⟩⟩
    | next => exact False.elim hq'
    | brk => exact False.elim hq'
    | cont => exact False.elim hq'
def uMkX (K : PySem.W.Frag) (C : Addr) (fs : List Str) (ta : UA) : UE := fun ρ S Q X => ta ρ S (fun xs S1 => xs.length = fs.length ∧ Q (xvT K C fs xs) S1) X
theorem q_uMkX {K : PySem.W.Frag} {C : Addr} {fs : List Str} {ta : UA} {ρ : Rho} {S : Sto} {Q : QV} {X : QX} : uMkX K C fs ta ρ S Q X = (ta ρ S (fun xs S1 => xs.length = fs.length ∧ Q (xvT K C fs xs) S1) X) := propext Iff.rfl
theorem upd_flip {H : Hp} {a d : Addr} {o1 o2 u : HO} (h : d ≠ a) : upd (upd (upd H a o1) d u) a o2 = upd (upd H a o2) d u := by
  funext b
  by_cases h1 : b = a
  · subst h1; rw [upd_same, upd_ne h.symm, upd_same]
  · rw [upd_ne h1]
    by_cases h2 : b = d
    · subst h2; rw [upd_same, upd_same]
    · rw [upd_ne h2, upd_ne h1, upd_ne h2, upd_ne h1]
theorem e_mkX {X : Cx} {W : WX} {K : PySem.W.Frag} {k : Nat} {x : Str} {C : Addr} {fs : List Str} {e : Expr} {es : List Expr} {ta : UA} {p pos : Pos} (E : ExcT X.prog X.w X.K X.mg X.base k x C fs) (hk : X.K = K) (hr : Room (k + 1) X.A) (hg : Gl X x) (ha : TPA X W (e :: es) ta)
    (hdb : (x == ("__debug__" : Str)) = false := by decide) (he : starEach (e :: es) X.env = (false, eval e X.env) :: starEach es X.env := by rfl) (hpl : (backTo pos (starEach es X.env)).any (·.1) = false := by rfl) :
    TPE X W (.Call (.Name x p) (e :: es) [] pos) (uMkX K C fs ta) := by
  subst hk
  obtain ⟨⟨CX, f, fd, ps, T, hm, h1, h2, b, Fn, px⟩, few⟩ := E
  refine ⟨wkE (pe_mkX T h1 h2 Fn hr b .nil (px X) hg hm ha.pe hdb he hpl) fun σ H R ⟨L, F, S, I, ρ, hd, sl, h⟩ => ?_, fun ρ S Q Q' X1 X2 hQ hX h => ha.mono _ _ _ _ _ _ (fun xs S1 q => ⟨q.1, hQ _ _ q.2⟩) hX h⟩
  refine lA_then ha.mono hd sl h (fun _ _ _ _ h => h) fun ys S1 vs H1 I1 ⟨len, q⟩ hd1 s1 sl1 r => ⟨by rw [r.len, len]; exact few, fun a na => ?_⟩
  refine ⟨a, vs, by rw [List.append_nil], by rw [r.len, len], upd_same, fun d nd nda => ⟨rfl, ?_⟩⟩
  rw [upd_ne nda] at nd
  rw [upd_flip nda]
  have nd2 : upd H1 a (exo a C (some d)) d = none := by rw [upd_ne nda]; exact nd
  have hd2 := (hd1.imm (o := exo a C (some d)) na).imm (o := exd d (fs.zip vs)) nd2
  have nI : I1 a = none := hd1.freeI na
  have nI2 : upd I1 a (exo a C (some d)) d = none := by rw [upd_ne nda]; exact hd1.freeI nd
  have sm : Same I1 (upd (upd I1 a (exo a C (some d))) d (exd d (fs.zip vs))) := (upd_sub nI).trans (upd_sub nI2)
  refine q (.ref a) _ _ hd2 (s1.trans sm) ⟨a, _, rfl, by rw [upd_ne nda.symm]; exact upd_same, fun I' s' => ⟨d, vs, rfl, s' _ _ upd_same, len.symm, r.mono (sm.trans s')⟩⟩
/-- x.f -/
def uXvF (K : PySem.W.Frag) (f : Str) (te : UE) : UE := fun ρ S Q X => te ρ S (fun x S1 => ∃ C fs xs y, x = xvT K C fs xs ∧ ExcC K C ∧ PySem.W.findIn K (.ref C) f = some none ∧ fget f fs xs = some y ∧ Q y S1) X
theorem q_uXvF {K : PySem.W.Frag} {f : Str} {te : UE} {ρ : Rho} {S : Sto} {Q : QV} {X : QX} : uXvF K f te ρ S Q X = (te ρ S (fun x S1 => ∃ C fs xs y, x = xvT K C fs xs ∧ ExcC K C ∧ PySem.W.findIn K (.ref C) f = some none ∧ fget f fs xs = some y ∧ Q y S1) X) := propext Iff.rfl
def rXvF (K : PySem.W.Frag) (f : Str) (te : TE) : TE := fun σ H Q => te σ H fun x H1 => ∃ (a d C : Addr) (fs : List (Str × V)) (v : V), x = .ref a ∧ H1 a = some (exo a C (some d)) ∧ H1 d = some (exd d fs) ∧ ExcC K C ∧ PySem.W.findIn K (.ref C) f = some none ∧ fs.lookup f = some v ∧ Q v H1
theorem exc_inst {X : Cx} {pins : List (Addr × Obj)} {σ : L2.St} {H : Hp} {s : Shared} {a d C : Addr} {fs : List (Str × V)} (I : Inv X pins σ H s) (h1 : H a = some (exo a C (some d))) (h2 : H d = some (exd d fs)) : ∃ (oe od : Obj) (mA : Str → Option Value), PySem.W.InstAt s.heap a oe C (some od) ∧ (∀ name, PySem.W.lookIn name od = some (mA name)) ∧ ∀ f, RelO (fs.lookup f) (mA f) := by
  obtain ⟨t1, ho⟩ := exo_at I.hok h1
  obtain ⟨mA, hns, hr⟩ := exd_at I.hok h2
  obtain ⟨od, hod, hl⟩ := lookIn_ns hns
  exact ⟨_, od, mA, ⟨ho, rfl, by unfold PySem.W.notCls; rfl, hod⟩, hl, hr⟩
theorem pe_xvf {X : Cx} {e : Expr} {te : TE} {pos : Pos} {f : Str} (he : PE X e te) (hb : attributeBase e f X.env (eval e X.env) = eval e X.env := by rfl) : PE X (.Attribute e f pos) (rXvF X.K f te) := by
  refine ⟨fun pins s σ H Q I h => ?_⟩
  refine attr_of hb (thn (he.run pins s σ H _ I h) fun u s1 ⟨x, H1, I1, rx, a, d, C, fs, v, ex, ha, hd, T, no, l, q⟩ => ?_)
  subst ex
  obtain rfl : u = Value.ref a := rx
  obtain ⟨oe, od, mA, J, hl, hr⟩ := exc_inst I1 ha hd
  obtain ⟨u, hu, ru⟩ := RelO.some_of (v := v) (o := mA f) (by rw [← l]; exact hr f)
  exact HandSPX.exc_get I1.kIn J T.hg T.hk T.hs (PySem.W.findObj_own T.hd no rfl (by rw [hl, hu])) (handed_of ru) ⟨v, H1, I1.tok _, ru, q⟩
theorem e_xvf {X : Cx} {W : WX} {K : PySem.W.Frag} {e : Expr} {te : UE} {f : Str} {pos : Pos} (hk : X.K = K) (he : TPE X W e te) (hb : attributeBase e f X.env (eval e X.env) = eval e X.env := by rfl) : TPE X W (.Attribute e f pos) (uXvF K f te) := by
  subst hk
  refine ⟨wkE (pe_xvf he.pe hb) fun σ H R ⟨L, F, S, I, ρ, hd, sl, h⟩ => lE_then he.mono hd sl h (fun _ _ _ _ h => h) fun x S1 v H1 I1 ⟨C, fs, xs, y, ex, T, no, g, q⟩ hd1 s1 sl1 r => ?_, fun ρ S Q Q' X X' hQ hX h => he.mono _ _ _ _ _ _ (fun x S1 ⟨C, fs, xs, y, ex, T, no, g, q⟩ => ⟨C, fs, xs, y, ex, T, no, g, hQ _ _ q⟩) hX h⟩
  subst ex
  obtain ⟨a, d, vs, rfl, h1, h2, h3, h4⟩ := xvT_rep hd1 r
  obtain ⟨w, l, rw_⟩ := fget_lk h4 g
  exact ⟨a, d, C, _, w, rfl, h1, h2, T, no, l, q w H1 I1 hd1 s1 rw_⟩
/-- isinstance(x, C) -/
def uIsV (K : PySem.W.Frag) (u : Value) (te : UE) : UE := fun ρ S Q X => te ρ S (fun x S1 => ∃ C fs xs b, x = xvT K C fs xs ∧ ExcC K C ∧ PySem.W.kitOne K (.ref C) u = some b ∧ Q (.bl b) S1) X
theorem q_uIsV {K : PySem.W.Frag} {u : Value} {te : UE} {ρ : Rho} {S : Sto} {Q : QV} {X : QX} : uIsV K u te ρ S Q X = (te ρ S (fun x S1 => ∃ C fs xs b, x = xvT K C fs xs ∧ ExcC K C ∧ PySem.W.kitOne K (.ref C) u = some b ∧ Q (.bl b) S1) X) := propext Iff.rfl
def rIsV (K : PySem.W.Frag) : List V → Hp → VK → Prop := fun xs H Q => ∃ (a d D : Addr) (fs : List (Str × V)) (c : V) (cv : Value) (b : Bool), xs = [.ref a, c] ∧ H a = some (exo a D (some d)) ∧ H d = some (exd d fs) ∧ ExcC K D ∧ (∀ u, RelV c u → u = cv) ∧ PySem.W.kitOne K (.ref D) cv = some b ∧ Q (.bl b) H
theorem call_isV {X : Cx} : CallR X (.builtin "isinstance") (rIsV X.K) := by
  rintro pins s σ H xs us Q I r ⟨a, d, D, fs, c, cv, b, rfl, ha, hd, C, hcv, e, q⟩
  obtain _ | ⟨rx, _ | ⟨rt, _ | _⟩⟩ := r
  cases rx
  have ec := hcv _ rt; subst ec
  obtain ⟨oe, od, mA, J, hl, hr⟩ := exc_inst I ha hd
  have hcl : (PySem.W.clsIn X.K D).isSome = true := by obtain ⟨cd, hc, _⟩ := PySem.W.any_some C.hd; rw [hc]; rfl
  exact PySem.W.kia_one (PySem.W.kitx_exc (od := some od) hcl C.hg C.hk C.hs C.ha C.hn C.ht C.hm) I.kIn J e (fun z => nomatch z) fun tk => ⟨.bl b, H, I.kept (t' := tk) fun _ _ z => z, rfl, q⟩
theorem e_isV {X : Cx} {W : WX} {K : PySem.W.Frag} {u : Value} {a c : Expr} {te : UE} {v1 : V} {p pos : Pos} (hk : X.K = K) (hg : Gl X "isinstance") (hm : X.mg "isinstance" = none) (he : TPE X W a te) (hc : PE X c (tC v1)) (h1 : ClsV v1 u)
    (s3 : starEach (a :: [c]) X.env = (false, eval a X.env) :: starEach [c] X.env := by rfl) (s4 : starEach [c] X.env = (false, eval c X.env) :: starEach [] X.env := by rfl)
    (hpl : (backTo pos (starEach [c] X.env)).any (·.1) = false := by rfl) : TPE X W (.Call (.Name "isinstance" p) [a, c] [] pos) (uIsV K u te) := by
  subst hk
  refine ⟨wkE (pe_callB call_isV hg hm boot_isinstance (pa_cons he.pe (pa_cons hc pa_nil s4) s3) (he := s3) (hpl := hpl)) fun σ H R ⟨L, F, S, I, ρ, hd, sl, h⟩ => ?_, fun ρ S Q Q' X X' hQ hX h => he.mono _ _ _ _ _ _ (fun x S1 ⟨C, fs, xs, b, ex, T, e, q⟩ => ⟨C, fs, xs, b, ex, T, e, hQ _ _ q⟩) hX h⟩
  refine lE_then he.mono hd sl h (fun _ _ _ _ h => h) fun x S1 v H1 I1 ⟨C, fs, xs, b, ex, T, e, q⟩ hd1 s1 sl1 r => ?_
  subst ex
  obtain ⟨a', d, vs, rfl, g1, g2, g3, g4⟩ := xvT_rep hd1 r
  exact ⟨a', d, C, _, v1, u, b, rfl, g1, g2, T, fun w rw_ => h1.eq rw_, e, q _ H1 I1 hd1 s1 rfl⟩
end KQ

namespace K98
open PySem PySem.Spec PyProof.Rows L2 KB KQ
structure Adr where
  u : Unit := ()
  KeysError : Addr
  BadKey : Addr
  DoubleKey : Addr
  NoKey : Addr
  NotText : Addr
  TooDeep : Addr
  BadOption : Addr
  Unwritable : Addr
  Unreadable : Addr
  Refused : Addr
  BadCondition : Addr
  BadLabel : Addr
  NoLabel : Addr
  BadStep : Addr
  WrongNumber : Addr
  TooMuch : Addr
  NoGuard : Addr
structure Top (K : PySem.W.Frag) (mg : Str → Option Value) (A : Adr) : Prop where
  b : Bi mg
  m_BadKey___init__ : DefM K A.BadKey "__init__" "BadKey.__init__" s_BadKey___init__ []
  m_BadOption___init__ : DefM K A.BadOption "__init__" "BadOption.__init__" s_BadOption___init__ []
  m_DoubleKey___init__ : DefM K A.DoubleKey "__init__" "DoubleKey.__init__" s_DoubleKey___init__ []
  m_NoKey___init__ : DefM K A.NoKey "__init__" "NoKey.__init__" s_NoKey___init__ []
  m_NotText___init__ : DefM K A.NotText "__init__" "NotText.__init__" s_NotText___init__ []
  m_Refused___init__ : DefM K A.Refused "__init__" "Refused.__init__" s_Refused___init__ []
  m_TooDeep___init__ : DefM K A.TooDeep "__init__" "TooDeep.__init__" s_TooDeep___init__ []
  m_Unreadable___init__ : DefM K A.Unreadable "__init__" "Unreadable.__init__" s_Unreadable___init__ []
  m_Unwritable___init__ : DefM K A.Unwritable "__init__" "Unwritable.__init__" s_Unwritable___init__ []
  d__law_raise_early : Def K mg "_law_raise_early" s__law_raise_early
  m_BadCondition___init__ : DefM K A.BadCondition "__init__" "BadCondition.__init__" s_BadCondition___init__ []
  m_BadLabel___init__ : DefM K A.BadLabel "__init__" "BadLabel.__init__" s_BadLabel___init__ []
  m_BadStep___init__ : DefM K A.BadStep "__init__" "BadStep.__init__" s_BadStep___init__ []
  m_NoGuard___init__ : DefM K A.NoGuard "__init__" "NoGuard.__init__" s_NoGuard___init__ []
  m_NoLabel___init__ : DefM K A.NoLabel "__init__" "NoLabel.__init__" s_NoLabel___init__ []
  m_TooMuch___init__ : DefM K A.TooMuch "__init__" "TooMuch.__init__" s_TooMuch___init__ []
  m_WrongNumber___init__ : DefM K A.WrongNumber "__init__" "WrongNumber.__init__" s_WrongNumber___init__ []
  d__law_raise_late : Def K mg "_law_raise_late" s__law_raise_late
  d__law_caught : Def K mg "_law_caught" s__law_caught
  d__law_classes : Def K mg "_law_classes" s__law_classes
  d__law_fields : Def K mg "_law_fields" s__law_fields
  d__law_more : Def K mg "_law_more" s__law_more
  d__law_draw : Def K mg "_law_draw" s__law_draw
  d__law_key : Def K mg "_law_key" s__law_key
  d__law_path : Def K mg "_law_path" s__law_path
  d__law_text : Def K mg "_law_text" s__law_text
  d__law_given : Def K mg "_law_given" s__law_given
  d__law_like : Def K mg "_law_like" s__law_like
  d__law_made : Def K mg "_law_made" s__law_made
  d__law_source : Def K mg "_law_source" s__law_source
  d_law : Def K mg "law" s_law
  c_KeysError : XTop mg "KeysError" A.KeysError
  c_BadKey : XTop mg "BadKey" A.BadKey
  c_DoubleKey : XTop mg "DoubleKey" A.DoubleKey
  c_NoKey : XTop mg "NoKey" A.NoKey
  c_NotText : XTop mg "NotText" A.NotText
  c_TooDeep : XTop mg "TooDeep" A.TooDeep
  c_BadOption : XTop mg "BadOption" A.BadOption
  c_Unwritable : XTop mg "Unwritable" A.Unwritable
  c_Unreadable : XTop mg "Unreadable" A.Unreadable
  c_Refused : XTop mg "Refused" A.Refused
  c_BadCondition : XTop mg "BadCondition" A.BadCondition
  c_BadLabel : XTop mg "BadLabel" A.BadLabel
  c_NoLabel : XTop mg "NoLabel" A.NoLabel
  c_BadStep : XTop mg "BadStep" A.BadStep
  c_WrongNumber : XTop mg "WrongNumber" A.WrongNumber
  c_TooMuch : XTop mg "TooMuch" A.TooMuch
  c_NoGuard : XTop mg "NoGuard" A.NoGuard
  ox_BadKey : OexC K A.BadKey
  ox_DoubleKey : OexC K A.DoubleKey
  ox_NoKey : OexC K A.NoKey
  ox_NotText : OexC K A.NotText
  ox_TooDeep : OexC K A.TooDeep
  ox_BadOption : OexC K A.BadOption
  ox_Unwritable : OexC K A.Unwritable
  ox_Unreadable : OexC K A.Unreadable
  ox_Refused : OexC K A.Refused
  ox_BadCondition : OexC K A.BadCondition
  ox_BadLabel : OexC K A.BadLabel
  ox_NoLabel : OexC K A.NoLabel
  ox_BadStep : OexC K A.BadStep
  ox_WrongNumber : OexC K A.WrongNumber
  ox_TooMuch : OexC K A.TooMuch
  ox_NoGuard : OexC K A.NoGuard
  xc_BadKey : ExcC K A.BadKey
  nf_BadKey_key : PySem.W.findIn K (.ref A.BadKey) "key" = some none
  em_BadKey_KeysError : PySem.W.exmOne K (.ref A.BadKey) (.ref A.KeysError) = some true
  ki_BadKey_BadCondition : PySem.W.kitOne K (.ref A.BadKey) (.ref A.BadCondition) = some false
  ki_BadKey_BadKey : PySem.W.kitOne K (.ref A.BadKey) (.ref A.BadKey) = some true
  ki_BadKey_BadLabel : PySem.W.kitOne K (.ref A.BadKey) (.ref A.BadLabel) = some false
  ki_BadKey_BadOption : PySem.W.kitOne K (.ref A.BadKey) (.ref A.BadOption) = some false
  ki_BadKey_BadStep : PySem.W.kitOne K (.ref A.BadKey) (.ref A.BadStep) = some false
  ki_BadKey_DoubleKey : PySem.W.kitOne K (.ref A.BadKey) (.ref A.DoubleKey) = some false
  ki_BadKey_KeysError : PySem.W.kitOne K (.ref A.BadKey) (.ref A.KeysError) = some true
  ki_BadKey_NoGuard : PySem.W.kitOne K (.ref A.BadKey) (.ref A.NoGuard) = some false
  ki_BadKey_NoKey : PySem.W.kitOne K (.ref A.BadKey) (.ref A.NoKey) = some false
  ki_BadKey_NoLabel : PySem.W.kitOne K (.ref A.BadKey) (.ref A.NoLabel) = some false
  ki_BadKey_NotText : PySem.W.kitOne K (.ref A.BadKey) (.ref A.NotText) = some false
  ki_BadKey_Refused : PySem.W.kitOne K (.ref A.BadKey) (.ref A.Refused) = some false
  ki_BadKey_TooDeep : PySem.W.kitOne K (.ref A.BadKey) (.ref A.TooDeep) = some false
  ki_BadKey_TooMuch : PySem.W.kitOne K (.ref A.BadKey) (.ref A.TooMuch) = some false
  ki_BadKey_Unreadable : PySem.W.kitOne K (.ref A.BadKey) (.ref A.Unreadable) = some false
  ki_BadKey_Unwritable : PySem.W.kitOne K (.ref A.BadKey) (.ref A.Unwritable) = some false
  ki_BadKey_ValueError : PySem.W.kitOne K (.ref A.BadKey) (.type "ValueError") = some true
  ki_BadKey_WrongNumber : PySem.W.kitOne K (.ref A.BadKey) (.ref A.WrongNumber) = some false
  xc_DoubleKey : ExcC K A.DoubleKey
  nf_DoubleKey_key : PySem.W.findIn K (.ref A.DoubleKey) "key" = some none
  em_DoubleKey_KeysError : PySem.W.exmOne K (.ref A.DoubleKey) (.ref A.KeysError) = some true
  ki_DoubleKey_BadCondition : PySem.W.kitOne K (.ref A.DoubleKey) (.ref A.BadCondition) = some false
  ki_DoubleKey_BadKey : PySem.W.kitOne K (.ref A.DoubleKey) (.ref A.BadKey) = some false
  ki_DoubleKey_BadLabel : PySem.W.kitOne K (.ref A.DoubleKey) (.ref A.BadLabel) = some false
  ki_DoubleKey_BadOption : PySem.W.kitOne K (.ref A.DoubleKey) (.ref A.BadOption) = some false
  ki_DoubleKey_BadStep : PySem.W.kitOne K (.ref A.DoubleKey) (.ref A.BadStep) = some false
  ki_DoubleKey_DoubleKey : PySem.W.kitOne K (.ref A.DoubleKey) (.ref A.DoubleKey) = some true
  ki_DoubleKey_KeysError : PySem.W.kitOne K (.ref A.DoubleKey) (.ref A.KeysError) = some true
  ki_DoubleKey_NoGuard : PySem.W.kitOne K (.ref A.DoubleKey) (.ref A.NoGuard) = some false
  ki_DoubleKey_NoKey : PySem.W.kitOne K (.ref A.DoubleKey) (.ref A.NoKey) = some false
  ki_DoubleKey_NoLabel : PySem.W.kitOne K (.ref A.DoubleKey) (.ref A.NoLabel) = some false
  ki_DoubleKey_NotText : PySem.W.kitOne K (.ref A.DoubleKey) (.ref A.NotText) = some false
  ki_DoubleKey_Refused : PySem.W.kitOne K (.ref A.DoubleKey) (.ref A.Refused) = some false
  ki_DoubleKey_TooDeep : PySem.W.kitOne K (.ref A.DoubleKey) (.ref A.TooDeep) = some false
  ki_DoubleKey_TooMuch : PySem.W.kitOne K (.ref A.DoubleKey) (.ref A.TooMuch) = some false
  ki_DoubleKey_Unreadable : PySem.W.kitOne K (.ref A.DoubleKey) (.ref A.Unreadable) = some false
  ki_DoubleKey_Unwritable : PySem.W.kitOne K (.ref A.DoubleKey) (.ref A.Unwritable) = some false
  ki_DoubleKey_ValueError : PySem.W.kitOne K (.ref A.DoubleKey) (.type "ValueError") = some true
  ki_DoubleKey_WrongNumber : PySem.W.kitOne K (.ref A.DoubleKey) (.ref A.WrongNumber) = some false
  xc_NoKey : ExcC K A.NoKey
  nf_NoKey_key : PySem.W.findIn K (.ref A.NoKey) "key" = some none
  em_NoKey_KeysError : PySem.W.exmOne K (.ref A.NoKey) (.ref A.KeysError) = some true
  ki_NoKey_BadCondition : PySem.W.kitOne K (.ref A.NoKey) (.ref A.BadCondition) = some false
  ki_NoKey_BadKey : PySem.W.kitOne K (.ref A.NoKey) (.ref A.BadKey) = some false
  ki_NoKey_BadLabel : PySem.W.kitOne K (.ref A.NoKey) (.ref A.BadLabel) = some false
  ki_NoKey_BadOption : PySem.W.kitOne K (.ref A.NoKey) (.ref A.BadOption) = some false
  ki_NoKey_BadStep : PySem.W.kitOne K (.ref A.NoKey) (.ref A.BadStep) = some false
  ki_NoKey_DoubleKey : PySem.W.kitOne K (.ref A.NoKey) (.ref A.DoubleKey) = some false
  ki_NoKey_KeysError : PySem.W.kitOne K (.ref A.NoKey) (.ref A.KeysError) = some true
  ki_NoKey_NoGuard : PySem.W.kitOne K (.ref A.NoKey) (.ref A.NoGuard) = some false
  ki_NoKey_NoKey : PySem.W.kitOne K (.ref A.NoKey) (.ref A.NoKey) = some true
  ki_NoKey_NoLabel : PySem.W.kitOne K (.ref A.NoKey) (.ref A.NoLabel) = some false
  ki_NoKey_NotText : PySem.W.kitOne K (.ref A.NoKey) (.ref A.NotText) = some false
  ki_NoKey_Refused : PySem.W.kitOne K (.ref A.NoKey) (.ref A.Refused) = some false
  ki_NoKey_TooDeep : PySem.W.kitOne K (.ref A.NoKey) (.ref A.TooDeep) = some false
  ki_NoKey_TooMuch : PySem.W.kitOne K (.ref A.NoKey) (.ref A.TooMuch) = some false
  ki_NoKey_Unreadable : PySem.W.kitOne K (.ref A.NoKey) (.ref A.Unreadable) = some false
  ki_NoKey_Unwritable : PySem.W.kitOne K (.ref A.NoKey) (.ref A.Unwritable) = some false
  ki_NoKey_ValueError : PySem.W.kitOne K (.ref A.NoKey) (.type "ValueError") = some true
  ki_NoKey_WrongNumber : PySem.W.kitOne K (.ref A.NoKey) (.ref A.WrongNumber) = some false
  xc_NotText : ExcC K A.NotText
  nf_NotText_position : PySem.W.findIn K (.ref A.NotText) "position" = some none
  em_NotText_KeysError : PySem.W.exmOne K (.ref A.NotText) (.ref A.KeysError) = some true
  ki_NotText_BadCondition : PySem.W.kitOne K (.ref A.NotText) (.ref A.BadCondition) = some false
  ki_NotText_BadKey : PySem.W.kitOne K (.ref A.NotText) (.ref A.BadKey) = some false
  ki_NotText_BadLabel : PySem.W.kitOne K (.ref A.NotText) (.ref A.BadLabel) = some false
  ki_NotText_BadOption : PySem.W.kitOne K (.ref A.NotText) (.ref A.BadOption) = some false
  ki_NotText_BadStep : PySem.W.kitOne K (.ref A.NotText) (.ref A.BadStep) = some false
  ki_NotText_DoubleKey : PySem.W.kitOne K (.ref A.NotText) (.ref A.DoubleKey) = some false
  ki_NotText_KeysError : PySem.W.kitOne K (.ref A.NotText) (.ref A.KeysError) = some true
  ki_NotText_NoGuard : PySem.W.kitOne K (.ref A.NotText) (.ref A.NoGuard) = some false
  ki_NotText_NoKey : PySem.W.kitOne K (.ref A.NotText) (.ref A.NoKey) = some false
  ki_NotText_NoLabel : PySem.W.kitOne K (.ref A.NotText) (.ref A.NoLabel) = some false
  ki_NotText_NotText : PySem.W.kitOne K (.ref A.NotText) (.ref A.NotText) = some true
  ki_NotText_Refused : PySem.W.kitOne K (.ref A.NotText) (.ref A.Refused) = some false
  ki_NotText_TooDeep : PySem.W.kitOne K (.ref A.NotText) (.ref A.TooDeep) = some false
  ki_NotText_TooMuch : PySem.W.kitOne K (.ref A.NotText) (.ref A.TooMuch) = some false
  ki_NotText_Unreadable : PySem.W.kitOne K (.ref A.NotText) (.ref A.Unreadable) = some false
  ki_NotText_Unwritable : PySem.W.kitOne K (.ref A.NotText) (.ref A.Unwritable) = some false
  ki_NotText_ValueError : PySem.W.kitOne K (.ref A.NotText) (.type "ValueError") = some true
  ki_NotText_WrongNumber : PySem.W.kitOne K (.ref A.NotText) (.ref A.WrongNumber) = some false
  xc_TooDeep : ExcC K A.TooDeep
  nf_TooDeep_position : PySem.W.findIn K (.ref A.TooDeep) "position" = some none
  em_TooDeep_KeysError : PySem.W.exmOne K (.ref A.TooDeep) (.ref A.KeysError) = some true
  ki_TooDeep_BadCondition : PySem.W.kitOne K (.ref A.TooDeep) (.ref A.BadCondition) = some false
  ki_TooDeep_BadKey : PySem.W.kitOne K (.ref A.TooDeep) (.ref A.BadKey) = some false
  ki_TooDeep_BadLabel : PySem.W.kitOne K (.ref A.TooDeep) (.ref A.BadLabel) = some false
  ki_TooDeep_BadOption : PySem.W.kitOne K (.ref A.TooDeep) (.ref A.BadOption) = some false
  ki_TooDeep_BadStep : PySem.W.kitOne K (.ref A.TooDeep) (.ref A.BadStep) = some false
  ki_TooDeep_DoubleKey : PySem.W.kitOne K (.ref A.TooDeep) (.ref A.DoubleKey) = some false
  ki_TooDeep_KeysError : PySem.W.kitOne K (.ref A.TooDeep) (.ref A.KeysError) = some true
  ki_TooDeep_NoGuard : PySem.W.kitOne K (.ref A.TooDeep) (.ref A.NoGuard) = some false
  ki_TooDeep_NoKey : PySem.W.kitOne K (.ref A.TooDeep) (.ref A.NoKey) = some false
  ki_TooDeep_NoLabel : PySem.W.kitOne K (.ref A.TooDeep) (.ref A.NoLabel) = some false
  ki_TooDeep_NotText : PySem.W.kitOne K (.ref A.TooDeep) (.ref A.NotText) = some false
  ki_TooDeep_Refused : PySem.W.kitOne K (.ref A.TooDeep) (.ref A.Refused) = some false
  ki_TooDeep_TooDeep : PySem.W.kitOne K (.ref A.TooDeep) (.ref A.TooDeep) = some true
  ki_TooDeep_TooMuch : PySem.W.kitOne K (.ref A.TooDeep) (.ref A.TooMuch) = some false
  ki_TooDeep_Unreadable : PySem.W.kitOne K (.ref A.TooDeep) (.ref A.Unreadable) = some false
  ki_TooDeep_Unwritable : PySem.W.kitOne K (.ref A.TooDeep) (.ref A.Unwritable) = some false
  ki_TooDeep_ValueError : PySem.W.kitOne K (.ref A.TooDeep) (.type "ValueError") = some true
  ki_TooDeep_WrongNumber : PySem.W.kitOne K (.ref A.TooDeep) (.ref A.WrongNumber) = some false
  xc_BadOption : ExcC K A.BadOption
  nf_BadOption_name : PySem.W.findIn K (.ref A.BadOption) "name" = some none
  nf_BadOption_value : PySem.W.findIn K (.ref A.BadOption) "value" = some none
  em_BadOption_KeysError : PySem.W.exmOne K (.ref A.BadOption) (.ref A.KeysError) = some true
  ki_BadOption_BadCondition : PySem.W.kitOne K (.ref A.BadOption) (.ref A.BadCondition) = some false
  ki_BadOption_BadKey : PySem.W.kitOne K (.ref A.BadOption) (.ref A.BadKey) = some false
  ki_BadOption_BadLabel : PySem.W.kitOne K (.ref A.BadOption) (.ref A.BadLabel) = some false
  ki_BadOption_BadOption : PySem.W.kitOne K (.ref A.BadOption) (.ref A.BadOption) = some true
  ki_BadOption_BadStep : PySem.W.kitOne K (.ref A.BadOption) (.ref A.BadStep) = some false
  ki_BadOption_DoubleKey : PySem.W.kitOne K (.ref A.BadOption) (.ref A.DoubleKey) = some false
  ki_BadOption_KeysError : PySem.W.kitOne K (.ref A.BadOption) (.ref A.KeysError) = some true
  ki_BadOption_NoGuard : PySem.W.kitOne K (.ref A.BadOption) (.ref A.NoGuard) = some false
  ki_BadOption_NoKey : PySem.W.kitOne K (.ref A.BadOption) (.ref A.NoKey) = some false
  ki_BadOption_NoLabel : PySem.W.kitOne K (.ref A.BadOption) (.ref A.NoLabel) = some false
  ki_BadOption_NotText : PySem.W.kitOne K (.ref A.BadOption) (.ref A.NotText) = some false
  ki_BadOption_Refused : PySem.W.kitOne K (.ref A.BadOption) (.ref A.Refused) = some false
  ki_BadOption_TooDeep : PySem.W.kitOne K (.ref A.BadOption) (.ref A.TooDeep) = some false
  ki_BadOption_TooMuch : PySem.W.kitOne K (.ref A.BadOption) (.ref A.TooMuch) = some false
  ki_BadOption_Unreadable : PySem.W.kitOne K (.ref A.BadOption) (.ref A.Unreadable) = some false
  ki_BadOption_Unwritable : PySem.W.kitOne K (.ref A.BadOption) (.ref A.Unwritable) = some false
  ki_BadOption_ValueError : PySem.W.kitOne K (.ref A.BadOption) (.type "ValueError") = some true
  ki_BadOption_WrongNumber : PySem.W.kitOne K (.ref A.BadOption) (.ref A.WrongNumber) = some false
  xc_Unwritable : ExcC K A.Unwritable
  nf_Unwritable_reason : PySem.W.findIn K (.ref A.Unwritable) "reason" = some none
  nf_Unwritable_path : PySem.W.findIn K (.ref A.Unwritable) "path" = some none
  em_Unwritable_KeysError : PySem.W.exmOne K (.ref A.Unwritable) (.ref A.KeysError) = some true
  ki_Unwritable_BadCondition : PySem.W.kitOne K (.ref A.Unwritable) (.ref A.BadCondition) = some false
  ki_Unwritable_BadKey : PySem.W.kitOne K (.ref A.Unwritable) (.ref A.BadKey) = some false
  ki_Unwritable_BadLabel : PySem.W.kitOne K (.ref A.Unwritable) (.ref A.BadLabel) = some false
  ki_Unwritable_BadOption : PySem.W.kitOne K (.ref A.Unwritable) (.ref A.BadOption) = some false
  ki_Unwritable_BadStep : PySem.W.kitOne K (.ref A.Unwritable) (.ref A.BadStep) = some false
  ki_Unwritable_DoubleKey : PySem.W.kitOne K (.ref A.Unwritable) (.ref A.DoubleKey) = some false
  ki_Unwritable_KeysError : PySem.W.kitOne K (.ref A.Unwritable) (.ref A.KeysError) = some true
  ki_Unwritable_NoGuard : PySem.W.kitOne K (.ref A.Unwritable) (.ref A.NoGuard) = some false
  ki_Unwritable_NoKey : PySem.W.kitOne K (.ref A.Unwritable) (.ref A.NoKey) = some false
  ki_Unwritable_NoLabel : PySem.W.kitOne K (.ref A.Unwritable) (.ref A.NoLabel) = some false
  ki_Unwritable_NotText : PySem.W.kitOne K (.ref A.Unwritable) (.ref A.NotText) = some false
  ki_Unwritable_Refused : PySem.W.kitOne K (.ref A.Unwritable) (.ref A.Refused) = some false
  ki_Unwritable_TooDeep : PySem.W.kitOne K (.ref A.Unwritable) (.ref A.TooDeep) = some false
  ki_Unwritable_TooMuch : PySem.W.kitOne K (.ref A.Unwritable) (.ref A.TooMuch) = some false
  ki_Unwritable_Unreadable : PySem.W.kitOne K (.ref A.Unwritable) (.ref A.Unreadable) = some false
  ki_Unwritable_Unwritable : PySem.W.kitOne K (.ref A.Unwritable) (.ref A.Unwritable) = some true
  ki_Unwritable_ValueError : PySem.W.kitOne K (.ref A.Unwritable) (.type "ValueError") = some true
  ki_Unwritable_WrongNumber : PySem.W.kitOne K (.ref A.Unwritable) (.ref A.WrongNumber) = some false
  xc_Unreadable : ExcC K A.Unreadable
  nf_Unreadable_reason : PySem.W.findIn K (.ref A.Unreadable) "reason" = some none
  nf_Unreadable_path : PySem.W.findIn K (.ref A.Unreadable) "path" = some none
  em_Unreadable_KeysError : PySem.W.exmOne K (.ref A.Unreadable) (.ref A.KeysError) = some true
  ki_Unreadable_BadCondition : PySem.W.kitOne K (.ref A.Unreadable) (.ref A.BadCondition) = some false
  ki_Unreadable_BadKey : PySem.W.kitOne K (.ref A.Unreadable) (.ref A.BadKey) = some false
  ki_Unreadable_BadLabel : PySem.W.kitOne K (.ref A.Unreadable) (.ref A.BadLabel) = some false
  ki_Unreadable_BadOption : PySem.W.kitOne K (.ref A.Unreadable) (.ref A.BadOption) = some false
  ki_Unreadable_BadStep : PySem.W.kitOne K (.ref A.Unreadable) (.ref A.BadStep) = some false
  ki_Unreadable_DoubleKey : PySem.W.kitOne K (.ref A.Unreadable) (.ref A.DoubleKey) = some false
  ki_Unreadable_KeysError : PySem.W.kitOne K (.ref A.Unreadable) (.ref A.KeysError) = some true
  ki_Unreadable_NoGuard : PySem.W.kitOne K (.ref A.Unreadable) (.ref A.NoGuard) = some false
  ki_Unreadable_NoKey : PySem.W.kitOne K (.ref A.Unreadable) (.ref A.NoKey) = some false
  ki_Unreadable_NoLabel : PySem.W.kitOne K (.ref A.Unreadable) (.ref A.NoLabel) = some false
  ki_Unreadable_NotText : PySem.W.kitOne K (.ref A.Unreadable) (.ref A.NotText) = some false
  ki_Unreadable_Refused : PySem.W.kitOne K (.ref A.Unreadable) (.ref A.Refused) = some false
  ki_Unreadable_TooDeep : PySem.W.kitOne K (.ref A.Unreadable) (.ref A.TooDeep) = some false
  ki_Unreadable_TooMuch : PySem.W.kitOne K (.ref A.Unreadable) (.ref A.TooMuch) = some false
  ki_Unreadable_Unreadable : PySem.W.kitOne K (.ref A.Unreadable) (.ref A.Unreadable) = some true
  ki_Unreadable_Unwritable : PySem.W.kitOne K (.ref A.Unreadable) (.ref A.Unwritable) = some false
  ki_Unreadable_ValueError : PySem.W.kitOne K (.ref A.Unreadable) (.type "ValueError") = some true
  ki_Unreadable_WrongNumber : PySem.W.kitOne K (.ref A.Unreadable) (.ref A.WrongNumber) = some false
  xc_Refused : ExcC K A.Refused
  nf_Refused_side : PySem.W.findIn K (.ref A.Refused) "side" = some none
  nf_Refused_reason : PySem.W.findIn K (.ref A.Refused) "reason" = some none
  nf_Refused_path : PySem.W.findIn K (.ref A.Refused) "path" = some none
  em_Refused_KeysError : PySem.W.exmOne K (.ref A.Refused) (.ref A.KeysError) = some true
  ki_Refused_BadCondition : PySem.W.kitOne K (.ref A.Refused) (.ref A.BadCondition) = some false
  ki_Refused_BadKey : PySem.W.kitOne K (.ref A.Refused) (.ref A.BadKey) = some false
  ki_Refused_BadLabel : PySem.W.kitOne K (.ref A.Refused) (.ref A.BadLabel) = some false
  ki_Refused_BadOption : PySem.W.kitOne K (.ref A.Refused) (.ref A.BadOption) = some false
  ki_Refused_BadStep : PySem.W.kitOne K (.ref A.Refused) (.ref A.BadStep) = some false
  ki_Refused_DoubleKey : PySem.W.kitOne K (.ref A.Refused) (.ref A.DoubleKey) = some false
  ki_Refused_KeysError : PySem.W.kitOne K (.ref A.Refused) (.ref A.KeysError) = some true
  ki_Refused_NoGuard : PySem.W.kitOne K (.ref A.Refused) (.ref A.NoGuard) = some false
  ki_Refused_NoKey : PySem.W.kitOne K (.ref A.Refused) (.ref A.NoKey) = some false
  ki_Refused_NoLabel : PySem.W.kitOne K (.ref A.Refused) (.ref A.NoLabel) = some false
  ki_Refused_NotText : PySem.W.kitOne K (.ref A.Refused) (.ref A.NotText) = some false
  ki_Refused_Refused : PySem.W.kitOne K (.ref A.Refused) (.ref A.Refused) = some true
  ki_Refused_TooDeep : PySem.W.kitOne K (.ref A.Refused) (.ref A.TooDeep) = some false
  ki_Refused_TooMuch : PySem.W.kitOne K (.ref A.Refused) (.ref A.TooMuch) = some false
  ki_Refused_Unreadable : PySem.W.kitOne K (.ref A.Refused) (.ref A.Unreadable) = some false
  ki_Refused_Unwritable : PySem.W.kitOne K (.ref A.Refused) (.ref A.Unwritable) = some false
  ki_Refused_ValueError : PySem.W.kitOne K (.ref A.Refused) (.type "ValueError") = some true
  ki_Refused_WrongNumber : PySem.W.kitOne K (.ref A.Refused) (.ref A.WrongNumber) = some false
  xc_BadCondition : ExcC K A.BadCondition
  nf_BadCondition_value : PySem.W.findIn K (.ref A.BadCondition) "value" = some none
  em_BadCondition_KeysError : PySem.W.exmOne K (.ref A.BadCondition) (.ref A.KeysError) = some true
  ki_BadCondition_BadCondition : PySem.W.kitOne K (.ref A.BadCondition) (.ref A.BadCondition) = some true
  ki_BadCondition_BadKey : PySem.W.kitOne K (.ref A.BadCondition) (.ref A.BadKey) = some false
  ki_BadCondition_BadLabel : PySem.W.kitOne K (.ref A.BadCondition) (.ref A.BadLabel) = some false
  ki_BadCondition_BadOption : PySem.W.kitOne K (.ref A.BadCondition) (.ref A.BadOption) = some false
  ki_BadCondition_BadStep : PySem.W.kitOne K (.ref A.BadCondition) (.ref A.BadStep) = some false
  ki_BadCondition_DoubleKey : PySem.W.kitOne K (.ref A.BadCondition) (.ref A.DoubleKey) = some false
  ki_BadCondition_KeysError : PySem.W.kitOne K (.ref A.BadCondition) (.ref A.KeysError) = some true
  ki_BadCondition_NoGuard : PySem.W.kitOne K (.ref A.BadCondition) (.ref A.NoGuard) = some false
  ki_BadCondition_NoKey : PySem.W.kitOne K (.ref A.BadCondition) (.ref A.NoKey) = some false
  ki_BadCondition_NoLabel : PySem.W.kitOne K (.ref A.BadCondition) (.ref A.NoLabel) = some false
  ki_BadCondition_NotText : PySem.W.kitOne K (.ref A.BadCondition) (.ref A.NotText) = some false
  ki_BadCondition_Refused : PySem.W.kitOne K (.ref A.BadCondition) (.ref A.Refused) = some false
  ki_BadCondition_TooDeep : PySem.W.kitOne K (.ref A.BadCondition) (.ref A.TooDeep) = some false
  ki_BadCondition_TooMuch : PySem.W.kitOne K (.ref A.BadCondition) (.ref A.TooMuch) = some false
  ki_BadCondition_Unreadable : PySem.W.kitOne K (.ref A.BadCondition) (.ref A.Unreadable) = some false
  ki_BadCondition_Unwritable : PySem.W.kitOne K (.ref A.BadCondition) (.ref A.Unwritable) = some false
  ki_BadCondition_ValueError : PySem.W.kitOne K (.ref A.BadCondition) (.type "ValueError") = some true
  ki_BadCondition_WrongNumber : PySem.W.kitOne K (.ref A.BadCondition) (.ref A.WrongNumber) = some false
  xc_BadLabel : ExcC K A.BadLabel
  nf_BadLabel_name : PySem.W.findIn K (.ref A.BadLabel) "name" = some none
  em_BadLabel_KeysError : PySem.W.exmOne K (.ref A.BadLabel) (.ref A.KeysError) = some true
  ki_BadLabel_BadCondition : PySem.W.kitOne K (.ref A.BadLabel) (.ref A.BadCondition) = some false
  ki_BadLabel_BadKey : PySem.W.kitOne K (.ref A.BadLabel) (.ref A.BadKey) = some false
  ki_BadLabel_BadLabel : PySem.W.kitOne K (.ref A.BadLabel) (.ref A.BadLabel) = some true
  ki_BadLabel_BadOption : PySem.W.kitOne K (.ref A.BadLabel) (.ref A.BadOption) = some false
  ki_BadLabel_BadStep : PySem.W.kitOne K (.ref A.BadLabel) (.ref A.BadStep) = some false
  ki_BadLabel_DoubleKey : PySem.W.kitOne K (.ref A.BadLabel) (.ref A.DoubleKey) = some false
  ki_BadLabel_KeysError : PySem.W.kitOne K (.ref A.BadLabel) (.ref A.KeysError) = some true
  ki_BadLabel_NoGuard : PySem.W.kitOne K (.ref A.BadLabel) (.ref A.NoGuard) = some false
  ki_BadLabel_NoKey : PySem.W.kitOne K (.ref A.BadLabel) (.ref A.NoKey) = some false
  ki_BadLabel_NoLabel : PySem.W.kitOne K (.ref A.BadLabel) (.ref A.NoLabel) = some false
  ki_BadLabel_NotText : PySem.W.kitOne K (.ref A.BadLabel) (.ref A.NotText) = some false
  ki_BadLabel_Refused : PySem.W.kitOne K (.ref A.BadLabel) (.ref A.Refused) = some false
  ki_BadLabel_TooDeep : PySem.W.kitOne K (.ref A.BadLabel) (.ref A.TooDeep) = some false
  ki_BadLabel_TooMuch : PySem.W.kitOne K (.ref A.BadLabel) (.ref A.TooMuch) = some false
  ki_BadLabel_Unreadable : PySem.W.kitOne K (.ref A.BadLabel) (.ref A.Unreadable) = some false
  ki_BadLabel_Unwritable : PySem.W.kitOne K (.ref A.BadLabel) (.ref A.Unwritable) = some false
  ki_BadLabel_ValueError : PySem.W.kitOne K (.ref A.BadLabel) (.type "ValueError") = some true
  ki_BadLabel_WrongNumber : PySem.W.kitOne K (.ref A.BadLabel) (.ref A.WrongNumber) = some false
  xc_NoLabel : ExcC K A.NoLabel
  nf_NoLabel_label : PySem.W.findIn K (.ref A.NoLabel) "label" = some none
  em_NoLabel_KeysError : PySem.W.exmOne K (.ref A.NoLabel) (.ref A.KeysError) = some true
  ki_NoLabel_BadCondition : PySem.W.kitOne K (.ref A.NoLabel) (.ref A.BadCondition) = some false
  ki_NoLabel_BadKey : PySem.W.kitOne K (.ref A.NoLabel) (.ref A.BadKey) = some false
  ki_NoLabel_BadLabel : PySem.W.kitOne K (.ref A.NoLabel) (.ref A.BadLabel) = some false
  ki_NoLabel_BadOption : PySem.W.kitOne K (.ref A.NoLabel) (.ref A.BadOption) = some false
  ki_NoLabel_BadStep : PySem.W.kitOne K (.ref A.NoLabel) (.ref A.BadStep) = some false
  ki_NoLabel_DoubleKey : PySem.W.kitOne K (.ref A.NoLabel) (.ref A.DoubleKey) = some false
  ki_NoLabel_KeysError : PySem.W.kitOne K (.ref A.NoLabel) (.ref A.KeysError) = some true
  ki_NoLabel_NoGuard : PySem.W.kitOne K (.ref A.NoLabel) (.ref A.NoGuard) = some false
  ki_NoLabel_NoKey : PySem.W.kitOne K (.ref A.NoLabel) (.ref A.NoKey) = some false
  ki_NoLabel_NoLabel : PySem.W.kitOne K (.ref A.NoLabel) (.ref A.NoLabel) = some true
  ki_NoLabel_NotText : PySem.W.kitOne K (.ref A.NoLabel) (.ref A.NotText) = some false
  ki_NoLabel_Refused : PySem.W.kitOne K (.ref A.NoLabel) (.ref A.Refused) = some false
  ki_NoLabel_TooDeep : PySem.W.kitOne K (.ref A.NoLabel) (.ref A.TooDeep) = some false
  ki_NoLabel_TooMuch : PySem.W.kitOne K (.ref A.NoLabel) (.ref A.TooMuch) = some false
  ki_NoLabel_Unreadable : PySem.W.kitOne K (.ref A.NoLabel) (.ref A.Unreadable) = some false
  ki_NoLabel_Unwritable : PySem.W.kitOne K (.ref A.NoLabel) (.ref A.Unwritable) = some false
  ki_NoLabel_ValueError : PySem.W.kitOne K (.ref A.NoLabel) (.type "ValueError") = some true
  ki_NoLabel_WrongNumber : PySem.W.kitOne K (.ref A.NoLabel) (.ref A.WrongNumber) = some false
  xc_BadStep : ExcC K A.BadStep
  nf_BadStep_index : PySem.W.findIn K (.ref A.BadStep) "index" = some none
  em_BadStep_KeysError : PySem.W.exmOne K (.ref A.BadStep) (.ref A.KeysError) = some true
  ki_BadStep_BadCondition : PySem.W.kitOne K (.ref A.BadStep) (.ref A.BadCondition) = some false
  ki_BadStep_BadKey : PySem.W.kitOne K (.ref A.BadStep) (.ref A.BadKey) = some false
  ki_BadStep_BadLabel : PySem.W.kitOne K (.ref A.BadStep) (.ref A.BadLabel) = some false
  ki_BadStep_BadOption : PySem.W.kitOne K (.ref A.BadStep) (.ref A.BadOption) = some false
  ki_BadStep_BadStep : PySem.W.kitOne K (.ref A.BadStep) (.ref A.BadStep) = some true
  ki_BadStep_DoubleKey : PySem.W.kitOne K (.ref A.BadStep) (.ref A.DoubleKey) = some false
  ki_BadStep_KeysError : PySem.W.kitOne K (.ref A.BadStep) (.ref A.KeysError) = some true
  ki_BadStep_NoGuard : PySem.W.kitOne K (.ref A.BadStep) (.ref A.NoGuard) = some false
  ki_BadStep_NoKey : PySem.W.kitOne K (.ref A.BadStep) (.ref A.NoKey) = some false
  ki_BadStep_NoLabel : PySem.W.kitOne K (.ref A.BadStep) (.ref A.NoLabel) = some false
  ki_BadStep_NotText : PySem.W.kitOne K (.ref A.BadStep) (.ref A.NotText) = some false
  ki_BadStep_Refused : PySem.W.kitOne K (.ref A.BadStep) (.ref A.Refused) = some false
  ki_BadStep_TooDeep : PySem.W.kitOne K (.ref A.BadStep) (.ref A.TooDeep) = some false
  ki_BadStep_TooMuch : PySem.W.kitOne K (.ref A.BadStep) (.ref A.TooMuch) = some false
  ki_BadStep_Unreadable : PySem.W.kitOne K (.ref A.BadStep) (.ref A.Unreadable) = some false
  ki_BadStep_Unwritable : PySem.W.kitOne K (.ref A.BadStep) (.ref A.Unwritable) = some false
  ki_BadStep_ValueError : PySem.W.kitOne K (.ref A.BadStep) (.type "ValueError") = some true
  ki_BadStep_WrongNumber : PySem.W.kitOne K (.ref A.BadStep) (.ref A.WrongNumber) = some false
  xc_WrongNumber : ExcC K A.WrongNumber
  nf_WrongNumber_wanted : PySem.W.findIn K (.ref A.WrongNumber) "wanted" = some none
  nf_WrongNumber_given : PySem.W.findIn K (.ref A.WrongNumber) "given" = some none
  em_WrongNumber_KeysError : PySem.W.exmOne K (.ref A.WrongNumber) (.ref A.KeysError) = some true
  ki_WrongNumber_BadCondition : PySem.W.kitOne K (.ref A.WrongNumber) (.ref A.BadCondition) = some false
  ki_WrongNumber_BadKey : PySem.W.kitOne K (.ref A.WrongNumber) (.ref A.BadKey) = some false
  ki_WrongNumber_BadLabel : PySem.W.kitOne K (.ref A.WrongNumber) (.ref A.BadLabel) = some false
  ki_WrongNumber_BadOption : PySem.W.kitOne K (.ref A.WrongNumber) (.ref A.BadOption) = some false
  ki_WrongNumber_BadStep : PySem.W.kitOne K (.ref A.WrongNumber) (.ref A.BadStep) = some false
  ki_WrongNumber_DoubleKey : PySem.W.kitOne K (.ref A.WrongNumber) (.ref A.DoubleKey) = some false
  ki_WrongNumber_KeysError : PySem.W.kitOne K (.ref A.WrongNumber) (.ref A.KeysError) = some true
  ki_WrongNumber_NoGuard : PySem.W.kitOne K (.ref A.WrongNumber) (.ref A.NoGuard) = some false
  ki_WrongNumber_NoKey : PySem.W.kitOne K (.ref A.WrongNumber) (.ref A.NoKey) = some false
  ki_WrongNumber_NoLabel : PySem.W.kitOne K (.ref A.WrongNumber) (.ref A.NoLabel) = some false
  ki_WrongNumber_NotText : PySem.W.kitOne K (.ref A.WrongNumber) (.ref A.NotText) = some false
  ki_WrongNumber_Refused : PySem.W.kitOne K (.ref A.WrongNumber) (.ref A.Refused) = some false
  ki_WrongNumber_TooDeep : PySem.W.kitOne K (.ref A.WrongNumber) (.ref A.TooDeep) = some false
  ki_WrongNumber_TooMuch : PySem.W.kitOne K (.ref A.WrongNumber) (.ref A.TooMuch) = some false
  ki_WrongNumber_Unreadable : PySem.W.kitOne K (.ref A.WrongNumber) (.ref A.Unreadable) = some false
  ki_WrongNumber_Unwritable : PySem.W.kitOne K (.ref A.WrongNumber) (.ref A.Unwritable) = some false
  ki_WrongNumber_ValueError : PySem.W.kitOne K (.ref A.WrongNumber) (.type "ValueError") = some true
  ki_WrongNumber_WrongNumber : PySem.W.kitOne K (.ref A.WrongNumber) (.ref A.WrongNumber) = some true
  xc_TooMuch : ExcC K A.TooMuch
  nf_TooMuch_what : PySem.W.findIn K (.ref A.TooMuch) "what" = some none
  em_TooMuch_KeysError : PySem.W.exmOne K (.ref A.TooMuch) (.ref A.KeysError) = some true
  ki_TooMuch_BadCondition : PySem.W.kitOne K (.ref A.TooMuch) (.ref A.BadCondition) = some false
  ki_TooMuch_BadKey : PySem.W.kitOne K (.ref A.TooMuch) (.ref A.BadKey) = some false
  ki_TooMuch_BadLabel : PySem.W.kitOne K (.ref A.TooMuch) (.ref A.BadLabel) = some false
  ki_TooMuch_BadOption : PySem.W.kitOne K (.ref A.TooMuch) (.ref A.BadOption) = some false
  ki_TooMuch_BadStep : PySem.W.kitOne K (.ref A.TooMuch) (.ref A.BadStep) = some false
  ki_TooMuch_DoubleKey : PySem.W.kitOne K (.ref A.TooMuch) (.ref A.DoubleKey) = some false
  ki_TooMuch_KeysError : PySem.W.kitOne K (.ref A.TooMuch) (.ref A.KeysError) = some true
  ki_TooMuch_NoGuard : PySem.W.kitOne K (.ref A.TooMuch) (.ref A.NoGuard) = some false
  ki_TooMuch_NoKey : PySem.W.kitOne K (.ref A.TooMuch) (.ref A.NoKey) = some false
  ki_TooMuch_NoLabel : PySem.W.kitOne K (.ref A.TooMuch) (.ref A.NoLabel) = some false
  ki_TooMuch_NotText : PySem.W.kitOne K (.ref A.TooMuch) (.ref A.NotText) = some false
  ki_TooMuch_Refused : PySem.W.kitOne K (.ref A.TooMuch) (.ref A.Refused) = some false
  ki_TooMuch_TooDeep : PySem.W.kitOne K (.ref A.TooMuch) (.ref A.TooDeep) = some false
  ki_TooMuch_TooMuch : PySem.W.kitOne K (.ref A.TooMuch) (.ref A.TooMuch) = some true
  ki_TooMuch_Unreadable : PySem.W.kitOne K (.ref A.TooMuch) (.ref A.Unreadable) = some false
  ki_TooMuch_Unwritable : PySem.W.kitOne K (.ref A.TooMuch) (.ref A.Unwritable) = some false
  ki_TooMuch_ValueError : PySem.W.kitOne K (.ref A.TooMuch) (.type "ValueError") = some true
  ki_TooMuch_WrongNumber : PySem.W.kitOne K (.ref A.TooMuch) (.ref A.WrongNumber) = some false
  xc_NoGuard : ExcC K A.NoGuard
  nf_NoGuard_name : PySem.W.findIn K (.ref A.NoGuard) "name" = some none
  em_NoGuard_KeysError : PySem.W.exmOne K (.ref A.NoGuard) (.ref A.KeysError) = some true
  ki_NoGuard_BadCondition : PySem.W.kitOne K (.ref A.NoGuard) (.ref A.BadCondition) = some false
  ki_NoGuard_BadKey : PySem.W.kitOne K (.ref A.NoGuard) (.ref A.BadKey) = some false
  ki_NoGuard_BadLabel : PySem.W.kitOne K (.ref A.NoGuard) (.ref A.BadLabel) = some false
  ki_NoGuard_BadOption : PySem.W.kitOne K (.ref A.NoGuard) (.ref A.BadOption) = some false
  ki_NoGuard_BadStep : PySem.W.kitOne K (.ref A.NoGuard) (.ref A.BadStep) = some false
  ki_NoGuard_DoubleKey : PySem.W.kitOne K (.ref A.NoGuard) (.ref A.DoubleKey) = some false
  ki_NoGuard_KeysError : PySem.W.kitOne K (.ref A.NoGuard) (.ref A.KeysError) = some true
  ki_NoGuard_NoGuard : PySem.W.kitOne K (.ref A.NoGuard) (.ref A.NoGuard) = some true
  ki_NoGuard_NoKey : PySem.W.kitOne K (.ref A.NoGuard) (.ref A.NoKey) = some false
  ki_NoGuard_NoLabel : PySem.W.kitOne K (.ref A.NoGuard) (.ref A.NoLabel) = some false
  ki_NoGuard_NotText : PySem.W.kitOne K (.ref A.NoGuard) (.ref A.NotText) = some false
  ki_NoGuard_Refused : PySem.W.kitOne K (.ref A.NoGuard) (.ref A.Refused) = some false
  ki_NoGuard_TooDeep : PySem.W.kitOne K (.ref A.NoGuard) (.ref A.TooDeep) = some false
  ki_NoGuard_TooMuch : PySem.W.kitOne K (.ref A.NoGuard) (.ref A.TooMuch) = some false
  ki_NoGuard_Unreadable : PySem.W.kitOne K (.ref A.NoGuard) (.ref A.Unreadable) = some false
  ki_NoGuard_Unwritable : PySem.W.kitOne K (.ref A.NoGuard) (.ref A.Unwritable) = some false
  ki_NoGuard_ValueError : PySem.W.kitOne K (.ref A.NoGuard) (.type "ValueError") = some true
  ki_NoGuard_WrongNumber : PySem.W.kitOne K (.ref A.NoGuard) (.ref A.WrongNumber) = some false
theorem Top.facts {K : PySem.W.Frag} {mg : Str → Option Value} {A : Adr} (T : Top K mg A) : ExcC K A.BadKey ∧ PySem.W.findIn K (.ref A.BadKey) "key" = some none ∧ PySem.W.exmOne K (.ref A.BadKey) (.ref A.KeysError) = some true ∧ PySem.W.kitOne K (.ref A.BadKey) (.ref A.BadCondition) = some false ∧ PySem.W.kitOne K (.ref A.BadKey) (.ref A.BadKey) = some true ∧ PySem.W.kitOne K (.ref A.BadKey) (.ref A.BadLabel) = some false ∧ PySem.W.kitOne K (.ref A.BadKey) (.ref A.BadOption) = some false ∧ PySem.W.kitOne K (.ref A.BadKey) (.ref A.BadStep) = some false ∧ PySem.W.kitOne K (.ref A.BadKey) (.ref A.DoubleKey) = some false ∧ PySem.W.kitOne K (.ref A.BadKey) (.ref A.KeysError) = some true ∧ PySem.W.kitOne K (.ref A.BadKey) (.ref A.NoGuard) = some false ∧ PySem.W.kitOne K (.ref A.BadKey) (.ref A.NoKey) = some false ∧ PySem.W.kitOne K (.ref A.BadKey) (.ref A.NoLabel) = some false ∧ PySem.W.kitOne K (.ref A.BadKey) (.ref A.NotText) = some false ∧ PySem.W.kitOne K (.ref A.BadKey) (.ref A.Refused) = some false ∧ PySem.W.kitOne K (.ref A.BadKey) (.ref A.TooDeep) = some false ∧ PySem.W.kitOne K (.ref A.BadKey) (.ref A.TooMuch) = some false ∧ PySem.W.kitOne K (.ref A.BadKey) (.ref A.Unreadable) = some false ∧ PySem.W.kitOne K (.ref A.BadKey) (.ref A.Unwritable) = some false ∧ PySem.W.kitOne K (.ref A.BadKey) (.type "ValueError") = some true ∧ PySem.W.kitOne K (.ref A.BadKey) (.ref A.WrongNumber) = some false ∧ ExcC K A.DoubleKey ∧ PySem.W.findIn K (.ref A.DoubleKey) "key" = some none ∧ PySem.W.exmOne K (.ref A.DoubleKey) (.ref A.KeysError) = some true ∧ PySem.W.kitOne K (.ref A.DoubleKey) (.ref A.BadCondition) = some false ∧ PySem.W.kitOne K (.ref A.DoubleKey) (.ref A.BadKey) = some false ∧ PySem.W.kitOne K (.ref A.DoubleKey) (.ref A.BadLabel) = some false ∧ PySem.W.kitOne K (.ref A.DoubleKey) (.ref A.BadOption) = some false ∧ PySem.W.kitOne K (.ref A.DoubleKey) (.ref A.BadStep) = some false ∧ PySem.W.kitOne K (.ref A.DoubleKey) (.ref A.DoubleKey) = some true ∧ PySem.W.kitOne K (.ref A.DoubleKey) (.ref A.KeysError) = some true ∧ PySem.W.kitOne K (.ref A.DoubleKey) (.ref A.NoGuard) = some false ∧ PySem.W.kitOne K (.ref A.DoubleKey) (.ref A.NoKey) = some false ∧ PySem.W.kitOne K (.ref A.DoubleKey) (.ref A.NoLabel) = some false ∧ PySem.W.kitOne K (.ref A.DoubleKey) (.ref A.NotText) = some false ∧ PySem.W.kitOne K (.ref A.DoubleKey) (.ref A.Refused) = some false ∧ PySem.W.kitOne K (.ref A.DoubleKey) (.ref A.TooDeep) = some false ∧ PySem.W.kitOne K (.ref A.DoubleKey) (.ref A.TooMuch) = some false ∧ PySem.W.kitOne K (.ref A.DoubleKey) (.ref A.Unreadable) = some false ∧ PySem.W.kitOne K (.ref A.DoubleKey) (.ref A.Unwritable) = some false ∧ PySem.W.kitOne K (.ref A.DoubleKey) (.type "ValueError") = some true ∧ PySem.W.kitOne K (.ref A.DoubleKey) (.ref A.WrongNumber) = some false ∧ ExcC K A.NoKey ∧ PySem.W.findIn K (.ref A.NoKey) "key" = some none ∧ PySem.W.exmOne K (.ref A.NoKey) (.ref A.KeysError) = some true ∧ PySem.W.kitOne K (.ref A.NoKey) (.ref A.BadCondition) = some false ∧ PySem.W.kitOne K (.ref A.NoKey) (.ref A.BadKey) = some false ∧ PySem.W.kitOne K (.ref A.NoKey) (.ref A.BadLabel) = some false ∧ PySem.W.kitOne K (.ref A.NoKey) (.ref A.BadOption) = some false ∧ PySem.W.kitOne K (.ref A.NoKey) (.ref A.BadStep) = some false ∧ PySem.W.kitOne K (.ref A.NoKey) (.ref A.DoubleKey) = some false ∧ PySem.W.kitOne K (.ref A.NoKey) (.ref A.KeysError) = some true ∧ PySem.W.kitOne K (.ref A.NoKey) (.ref A.NoGuard) = some false ∧ PySem.W.kitOne K (.ref A.NoKey) (.ref A.NoKey) = some true ∧ PySem.W.kitOne K (.ref A.NoKey) (.ref A.NoLabel) = some false ∧ PySem.W.kitOne K (.ref A.NoKey) (.ref A.NotText) = some false ∧ PySem.W.kitOne K (.ref A.NoKey) (.ref A.Refused) = some false ∧ PySem.W.kitOne K (.ref A.NoKey) (.ref A.TooDeep) = some false ∧ PySem.W.kitOne K (.ref A.NoKey) (.ref A.TooMuch) = some false ∧ PySem.W.kitOne K (.ref A.NoKey) (.ref A.Unreadable) = some false ∧ PySem.W.kitOne K (.ref A.NoKey) (.ref A.Unwritable) = some false ∧ PySem.W.kitOne K (.ref A.NoKey) (.type "ValueError") = some true ∧ PySem.W.kitOne K (.ref A.NoKey) (.ref A.WrongNumber) = some false ∧ ExcC K A.NotText ∧ PySem.W.findIn K (.ref A.NotText) "position" = some none ∧ PySem.W.exmOne K (.ref A.NotText) (.ref A.KeysError) = some true ∧ PySem.W.kitOne K (.ref A.NotText) (.ref A.BadCondition) = some false ∧ PySem.W.kitOne K (.ref A.NotText) (.ref A.BadKey) = some false ∧ PySem.W.kitOne K (.ref A.NotText) (.ref A.BadLabel) = some false ∧ PySem.W.kitOne K (.ref A.NotText) (.ref A.BadOption) = some false ∧ PySem.W.kitOne K (.ref A.NotText) (.ref A.BadStep) = some false ∧ PySem.W.kitOne K (.ref A.NotText) (.ref A.DoubleKey) = some false ∧ PySem.W.kitOne K (.ref A.NotText) (.ref A.KeysError) = some true ∧ PySem.W.kitOne K (.ref A.NotText) (.ref A.NoGuard) = some false ∧ PySem.W.kitOne K (.ref A.NotText) (.ref A.NoKey) = some false ∧ PySem.W.kitOne K (.ref A.NotText) (.ref A.NoLabel) = some false ∧ PySem.W.kitOne K (.ref A.NotText) (.ref A.NotText) = some true ∧ PySem.W.kitOne K (.ref A.NotText) (.ref A.Refused) = some false ∧ PySem.W.kitOne K (.ref A.NotText) (.ref A.TooDeep) = some false ∧ PySem.W.kitOne K (.ref A.NotText) (.ref A.TooMuch) = some false ∧ PySem.W.kitOne K (.ref A.NotText) (.ref A.Unreadable) = some false ∧ PySem.W.kitOne K (.ref A.NotText) (.ref A.Unwritable) = some false ∧ PySem.W.kitOne K (.ref A.NotText) (.type "ValueError") = some true ∧ PySem.W.kitOne K (.ref A.NotText) (.ref A.WrongNumber) = some false ∧ ExcC K A.TooDeep ∧ PySem.W.findIn K (.ref A.TooDeep) "position" = some none ∧ PySem.W.exmOne K (.ref A.TooDeep) (.ref A.KeysError) = some true ∧ PySem.W.kitOne K (.ref A.TooDeep) (.ref A.BadCondition) = some false ∧ PySem.W.kitOne K (.ref A.TooDeep) (.ref A.BadKey) = some false ∧ PySem.W.kitOne K (.ref A.TooDeep) (.ref A.BadLabel) = some false ∧ PySem.W.kitOne K (.ref A.TooDeep) (.ref A.BadOption) = some false ∧ PySem.W.kitOne K (.ref A.TooDeep) (.ref A.BadStep) = some false ∧ PySem.W.kitOne K (.ref A.TooDeep) (.ref A.DoubleKey) = some false ∧ PySem.W.kitOne K (.ref A.TooDeep) (.ref A.KeysError) = some true ∧ PySem.W.kitOne K (.ref A.TooDeep) (.ref A.NoGuard) = some false ∧ PySem.W.kitOne K (.ref A.TooDeep) (.ref A.NoKey) = some false ∧ PySem.W.kitOne K (.ref A.TooDeep) (.ref A.NoLabel) = some false ∧ PySem.W.kitOne K (.ref A.TooDeep) (.ref A.NotText) = some false ∧ PySem.W.kitOne K (.ref A.TooDeep) (.ref A.Refused) = some false ∧ PySem.W.kitOne K (.ref A.TooDeep) (.ref A.TooDeep) = some true ∧ PySem.W.kitOne K (.ref A.TooDeep) (.ref A.TooMuch) = some false ∧ PySem.W.kitOne K (.ref A.TooDeep) (.ref A.Unreadable) = some false ∧ PySem.W.kitOne K (.ref A.TooDeep) (.ref A.Unwritable) = some false ∧ PySem.W.kitOne K (.ref A.TooDeep) (.type "ValueError") = some true ∧ PySem.W.kitOne K (.ref A.TooDeep) (.ref A.WrongNumber) = some false ∧ ExcC K A.BadOption ∧ PySem.W.findIn K (.ref A.BadOption) "name" = some none ∧ PySem.W.findIn K (.ref A.BadOption) "value" = some none ∧ PySem.W.exmOne K (.ref A.BadOption) (.ref A.KeysError) = some true ∧ PySem.W.kitOne K (.ref A.BadOption) (.ref A.BadCondition) = some false ∧ PySem.W.kitOne K (.ref A.BadOption) (.ref A.BadKey) = some false ∧ PySem.W.kitOne K (.ref A.BadOption) (.ref A.BadLabel) = some false ∧ PySem.W.kitOne K (.ref A.BadOption) (.ref A.BadOption) = some true ∧ PySem.W.kitOne K (.ref A.BadOption) (.ref A.BadStep) = some false ∧ PySem.W.kitOne K (.ref A.BadOption) (.ref A.DoubleKey) = some false ∧ PySem.W.kitOne K (.ref A.BadOption) (.ref A.KeysError) = some true ∧ PySem.W.kitOne K (.ref A.BadOption) (.ref A.NoGuard) = some false ∧ PySem.W.kitOne K (.ref A.BadOption) (.ref A.NoKey) = some false ∧ PySem.W.kitOne K (.ref A.BadOption) (.ref A.NoLabel) = some false ∧ PySem.W.kitOne K (.ref A.BadOption) (.ref A.NotText) = some false ∧ PySem.W.kitOne K (.ref A.BadOption) (.ref A.Refused) = some false ∧ PySem.W.kitOne K (.ref A.BadOption) (.ref A.TooDeep) = some false ∧ PySem.W.kitOne K (.ref A.BadOption) (.ref A.TooMuch) = some false ∧ PySem.W.kitOne K (.ref A.BadOption) (.ref A.Unreadable) = some false ∧ PySem.W.kitOne K (.ref A.BadOption) (.ref A.Unwritable) = some false ∧ PySem.W.kitOne K (.ref A.BadOption) (.type "ValueError") = some true ∧ PySem.W.kitOne K (.ref A.BadOption) (.ref A.WrongNumber) = some false ∧ ExcC K A.Unwritable ∧ PySem.W.findIn K (.ref A.Unwritable) "reason" = some none ∧ PySem.W.findIn K (.ref A.Unwritable) "path" = some none ∧ PySem.W.exmOne K (.ref A.Unwritable) (.ref A.KeysError) = some true ∧ PySem.W.kitOne K (.ref A.Unwritable) (.ref A.BadCondition) = some false ∧ PySem.W.kitOne K (.ref A.Unwritable) (.ref A.BadKey) = some false ∧ PySem.W.kitOne K (.ref A.Unwritable) (.ref A.BadLabel) = some false ∧ PySem.W.kitOne K (.ref A.Unwritable) (.ref A.BadOption) = some false ∧ PySem.W.kitOne K (.ref A.Unwritable) (.ref A.BadStep) = some false ∧ PySem.W.kitOne K (.ref A.Unwritable) (.ref A.DoubleKey) = some false ∧ PySem.W.kitOne K (.ref A.Unwritable) (.ref A.KeysError) = some true ∧ PySem.W.kitOne K (.ref A.Unwritable) (.ref A.NoGuard) = some false ∧ PySem.W.kitOne K (.ref A.Unwritable) (.ref A.NoKey) = some false ∧ PySem.W.kitOne K (.ref A.Unwritable) (.ref A.NoLabel) = some false ∧ PySem.W.kitOne K (.ref A.Unwritable) (.ref A.NotText) = some false ∧ PySem.W.kitOne K (.ref A.Unwritable) (.ref A.Refused) = some false ∧ PySem.W.kitOne K (.ref A.Unwritable) (.ref A.TooDeep) = some false ∧ PySem.W.kitOne K (.ref A.Unwritable) (.ref A.TooMuch) = some false ∧ PySem.W.kitOne K (.ref A.Unwritable) (.ref A.Unreadable) = some false ∧ PySem.W.kitOne K (.ref A.Unwritable) (.ref A.Unwritable) = some true ∧ PySem.W.kitOne K (.ref A.Unwritable) (.type "ValueError") = some true ∧ PySem.W.kitOne K (.ref A.Unwritable) (.ref A.WrongNumber) = some false ∧ ExcC K A.Unreadable ∧ PySem.W.findIn K (.ref A.Unreadable) "reason" = some none ∧ PySem.W.findIn K (.ref A.Unreadable) "path" = some none ∧ PySem.W.exmOne K (.ref A.Unreadable) (.ref A.KeysError) = some true ∧ PySem.W.kitOne K (.ref A.Unreadable) (.ref A.BadCondition) = some false ∧ PySem.W.kitOne K (.ref A.Unreadable) (.ref A.BadKey) = some false ∧ PySem.W.kitOne K (.ref A.Unreadable) (.ref A.BadLabel) = some false ∧ PySem.W.kitOne K (.ref A.Unreadable) (.ref A.BadOption) = some false ∧ PySem.W.kitOne K (.ref A.Unreadable) (.ref A.BadStep) = some false ∧ PySem.W.kitOne K (.ref A.Unreadable) (.ref A.DoubleKey) = some false ∧ PySem.W.kitOne K (.ref A.Unreadable) (.ref A.KeysError) = some true ∧ PySem.W.kitOne K (.ref A.Unreadable) (.ref A.NoGuard) = some false ∧ PySem.W.kitOne K (.ref A.Unreadable) (.ref A.NoKey) = some false ∧ PySem.W.kitOne K (.ref A.Unreadable) (.ref A.NoLabel) = some false ∧ PySem.W.kitOne K (.ref A.Unreadable) (.ref A.NotText) = some false ∧ PySem.W.kitOne K (.ref A.Unreadable) (.ref A.Refused) = some false ∧ PySem.W.kitOne K (.ref A.Unreadable) (.ref A.TooDeep) = some false ∧ PySem.W.kitOne K (.ref A.Unreadable) (.ref A.TooMuch) = some false ∧ PySem.W.kitOne K (.ref A.Unreadable) (.ref A.Unreadable) = some true ∧ PySem.W.kitOne K (.ref A.Unreadable) (.ref A.Unwritable) = some false ∧ PySem.W.kitOne K (.ref A.Unreadable) (.type "ValueError") = some true ∧ PySem.W.kitOne K (.ref A.Unreadable) (.ref A.WrongNumber) = some false ∧ ExcC K A.Refused ∧ PySem.W.findIn K (.ref A.Refused) "side" = some none ∧ PySem.W.findIn K (.ref A.Refused) "reason" = some none ∧ PySem.W.findIn K (.ref A.Refused) "path" = some none ∧ PySem.W.exmOne K (.ref A.Refused) (.ref A.KeysError) = some true ∧ PySem.W.kitOne K (.ref A.Refused) (.ref A.BadCondition) = some false ∧ PySem.W.kitOne K (.ref A.Refused) (.ref A.BadKey) = some false ∧ PySem.W.kitOne K (.ref A.Refused) (.ref A.BadLabel) = some false ∧ PySem.W.kitOne K (.ref A.Refused) (.ref A.BadOption) = some false ∧ PySem.W.kitOne K (.ref A.Refused) (.ref A.BadStep) = some false ∧ PySem.W.kitOne K (.ref A.Refused) (.ref A.DoubleKey) = some false ∧ PySem.W.kitOne K (.ref A.Refused) (.ref A.KeysError) = some true ∧ PySem.W.kitOne K (.ref A.Refused) (.ref A.NoGuard) = some false ∧ PySem.W.kitOne K (.ref A.Refused) (.ref A.NoKey) = some false ∧ PySem.W.kitOne K (.ref A.Refused) (.ref A.NoLabel) = some false ∧ PySem.W.kitOne K (.ref A.Refused) (.ref A.NotText) = some false ∧ PySem.W.kitOne K (.ref A.Refused) (.ref A.Refused) = some true ∧ PySem.W.kitOne K (.ref A.Refused) (.ref A.TooDeep) = some false ∧ PySem.W.kitOne K (.ref A.Refused) (.ref A.TooMuch) = some false ∧ PySem.W.kitOne K (.ref A.Refused) (.ref A.Unreadable) = some false ∧ PySem.W.kitOne K (.ref A.Refused) (.ref A.Unwritable) = some false ∧ PySem.W.kitOne K (.ref A.Refused) (.type "ValueError") = some true ∧ PySem.W.kitOne K (.ref A.Refused) (.ref A.WrongNumber) = some false ∧ ExcC K A.BadCondition ∧ PySem.W.findIn K (.ref A.BadCondition) "value" = some none ∧ PySem.W.exmOne K (.ref A.BadCondition) (.ref A.KeysError) = some true ∧ PySem.W.kitOne K (.ref A.BadCondition) (.ref A.BadCondition) = some true ∧ PySem.W.kitOne K (.ref A.BadCondition) (.ref A.BadKey) = some false ∧ PySem.W.kitOne K (.ref A.BadCondition) (.ref A.BadLabel) = some false ∧ PySem.W.kitOne K (.ref A.BadCondition) (.ref A.BadOption) = some false ∧ PySem.W.kitOne K (.ref A.BadCondition) (.ref A.BadStep) = some false ∧ PySem.W.kitOne K (.ref A.BadCondition) (.ref A.DoubleKey) = some false ∧ PySem.W.kitOne K (.ref A.BadCondition) (.ref A.KeysError) = some true ∧ PySem.W.kitOne K (.ref A.BadCondition) (.ref A.NoGuard) = some false ∧ PySem.W.kitOne K (.ref A.BadCondition) (.ref A.NoKey) = some false ∧ PySem.W.kitOne K (.ref A.BadCondition) (.ref A.NoLabel) = some false ∧ PySem.W.kitOne K (.ref A.BadCondition) (.ref A.NotText) = some false ∧ PySem.W.kitOne K (.ref A.BadCondition) (.ref A.Refused) = some false ∧ PySem.W.kitOne K (.ref A.BadCondition) (.ref A.TooDeep) = some false ∧ PySem.W.kitOne K (.ref A.BadCondition) (.ref A.TooMuch) = some false ∧ PySem.W.kitOne K (.ref A.BadCondition) (.ref A.Unreadable) = some false ∧ PySem.W.kitOne K (.ref A.BadCondition) (.ref A.Unwritable) = some false ∧ PySem.W.kitOne K (.ref A.BadCondition) (.type "ValueError") = some true ∧ PySem.W.kitOne K (.ref A.BadCondition) (.ref A.WrongNumber) = some false ∧ ExcC K A.BadLabel ∧ PySem.W.findIn K (.ref A.BadLabel) "name" = some none ∧ PySem.W.exmOne K (.ref A.BadLabel) (.ref A.KeysError) = some true ∧ PySem.W.kitOne K (.ref A.BadLabel) (.ref A.BadCondition) = some false ∧ PySem.W.kitOne K (.ref A.BadLabel) (.ref A.BadKey) = some false ∧ PySem.W.kitOne K (.ref A.BadLabel) (.ref A.BadLabel) = some true ∧ PySem.W.kitOne K (.ref A.BadLabel) (.ref A.BadOption) = some false ∧ PySem.W.kitOne K (.ref A.BadLabel) (.ref A.BadStep) = some false ∧ PySem.W.kitOne K (.ref A.BadLabel) (.ref A.DoubleKey) = some false ∧ PySem.W.kitOne K (.ref A.BadLabel) (.ref A.KeysError) = some true ∧ PySem.W.kitOne K (.ref A.BadLabel) (.ref A.NoGuard) = some false ∧ PySem.W.kitOne K (.ref A.BadLabel) (.ref A.NoKey) = some false ∧ PySem.W.kitOne K (.ref A.BadLabel) (.ref A.NoLabel) = some false ∧ PySem.W.kitOne K (.ref A.BadLabel) (.ref A.NotText) = some false ∧ PySem.W.kitOne K (.ref A.BadLabel) (.ref A.Refused) = some false ∧ PySem.W.kitOne K (.ref A.BadLabel) (.ref A.TooDeep) = some false ∧ PySem.W.kitOne K (.ref A.BadLabel) (.ref A.TooMuch) = some false ∧ PySem.W.kitOne K (.ref A.BadLabel) (.ref A.Unreadable) = some false ∧ PySem.W.kitOne K (.ref A.BadLabel) (.ref A.Unwritable) = some false ∧ PySem.W.kitOne K (.ref A.BadLabel) (.type "ValueError") = some true ∧ PySem.W.kitOne K (.ref A.BadLabel) (.ref A.WrongNumber) = some false ∧ ExcC K A.NoLabel ∧ PySem.W.findIn K (.ref A.NoLabel) "label" = some none ∧ PySem.W.exmOne K (.ref A.NoLabel) (.ref A.KeysError) = some true ∧ PySem.W.kitOne K (.ref A.NoLabel) (.ref A.BadCondition) = some false ∧ PySem.W.kitOne K (.ref A.NoLabel) (.ref A.BadKey) = some false ∧ PySem.W.kitOne K (.ref A.NoLabel) (.ref A.BadLabel) = some false ∧ PySem.W.kitOne K (.ref A.NoLabel) (.ref A.BadOption) = some false ∧ PySem.W.kitOne K (.ref A.NoLabel) (.ref A.BadStep) = some false ∧ PySem.W.kitOne K (.ref A.NoLabel) (.ref A.DoubleKey) = some false ∧ PySem.W.kitOne K (.ref A.NoLabel) (.ref A.KeysError) = some true ∧ PySem.W.kitOne K (.ref A.NoLabel) (.ref A.NoGuard) = some false ∧ PySem.W.kitOne K (.ref A.NoLabel) (.ref A.NoKey) = some false ∧ PySem.W.kitOne K (.ref A.NoLabel) (.ref A.NoLabel) = some true ∧ PySem.W.kitOne K (.ref A.NoLabel) (.ref A.NotText) = some false ∧ PySem.W.kitOne K (.ref A.NoLabel) (.ref A.Refused) = some false ∧ PySem.W.kitOne K (.ref A.NoLabel) (.ref A.TooDeep) = some false ∧ PySem.W.kitOne K (.ref A.NoLabel) (.ref A.TooMuch) = some false ∧ PySem.W.kitOne K (.ref A.NoLabel) (.ref A.Unreadable) = some false ∧ PySem.W.kitOne K (.ref A.NoLabel) (.ref A.Unwritable) = some false ∧ PySem.W.kitOne K (.ref A.NoLabel) (.type "ValueError") = some true ∧ PySem.W.kitOne K (.ref A.NoLabel) (.ref A.WrongNumber) = some false ∧ ExcC K A.BadStep ∧ PySem.W.findIn K (.ref A.BadStep) "index" = some none ∧ PySem.W.exmOne K (.ref A.BadStep) (.ref A.KeysError) = some true ∧ PySem.W.kitOne K (.ref A.BadStep) (.ref A.BadCondition) = some false ∧ PySem.W.kitOne K (.ref A.BadStep) (.ref A.BadKey) = some false ∧ PySem.W.kitOne K (.ref A.BadStep) (.ref A.BadLabel) = some false ∧ PySem.W.kitOne K (.ref A.BadStep) (.ref A.BadOption) = some false ∧ PySem.W.kitOne K (.ref A.BadStep) (.ref A.BadStep) = some true ∧ PySem.W.kitOne K (.ref A.BadStep) (.ref A.DoubleKey) = some false ∧ PySem.W.kitOne K (.ref A.BadStep) (.ref A.KeysError) = some true ∧ PySem.W.kitOne K (.ref A.BadStep) (.ref A.NoGuard) = some false ∧ PySem.W.kitOne K (.ref A.BadStep) (.ref A.NoKey) = some false ∧ PySem.W.kitOne K (.ref A.BadStep) (.ref A.NoLabel) = some false ∧ PySem.W.kitOne K (.ref A.BadStep) (.ref A.NotText) = some false ∧ PySem.W.kitOne K (.ref A.BadStep) (.ref A.Refused) = some false ∧ PySem.W.kitOne K (.ref A.BadStep) (.ref A.TooDeep) = some false ∧ PySem.W.kitOne K (.ref A.BadStep) (.ref A.TooMuch) = some false ∧ PySem.W.kitOne K (.ref A.BadStep) (.ref A.Unreadable) = some false ∧ PySem.W.kitOne K (.ref A.BadStep) (.ref A.Unwritable) = some false ∧ PySem.W.kitOne K (.ref A.BadStep) (.type "ValueError") = some true ∧ PySem.W.kitOne K (.ref A.BadStep) (.ref A.WrongNumber) = some false ∧ ExcC K A.WrongNumber ∧ PySem.W.findIn K (.ref A.WrongNumber) "wanted" = some none ∧ PySem.W.findIn K (.ref A.WrongNumber) "given" = some none ∧ PySem.W.exmOne K (.ref A.WrongNumber) (.ref A.KeysError) = some true ∧ PySem.W.kitOne K (.ref A.WrongNumber) (.ref A.BadCondition) = some false ∧ PySem.W.kitOne K (.ref A.WrongNumber) (.ref A.BadKey) = some false ∧ PySem.W.kitOne K (.ref A.WrongNumber) (.ref A.BadLabel) = some false ∧ PySem.W.kitOne K (.ref A.WrongNumber) (.ref A.BadOption) = some false ∧ PySem.W.kitOne K (.ref A.WrongNumber) (.ref A.BadStep) = some false ∧ PySem.W.kitOne K (.ref A.WrongNumber) (.ref A.DoubleKey) = some false ∧ PySem.W.kitOne K (.ref A.WrongNumber) (.ref A.KeysError) = some true ∧ PySem.W.kitOne K (.ref A.WrongNumber) (.ref A.NoGuard) = some false ∧ PySem.W.kitOne K (.ref A.WrongNumber) (.ref A.NoKey) = some false ∧ PySem.W.kitOne K (.ref A.WrongNumber) (.ref A.NoLabel) = some false ∧ PySem.W.kitOne K (.ref A.WrongNumber) (.ref A.NotText) = some false ∧ PySem.W.kitOne K (.ref A.WrongNumber) (.ref A.Refused) = some false ∧ PySem.W.kitOne K (.ref A.WrongNumber) (.ref A.TooDeep) = some false ∧ PySem.W.kitOne K (.ref A.WrongNumber) (.ref A.TooMuch) = some false ∧ PySem.W.kitOne K (.ref A.WrongNumber) (.ref A.Unreadable) = some false ∧ PySem.W.kitOne K (.ref A.WrongNumber) (.ref A.Unwritable) = some false ∧ PySem.W.kitOne K (.ref A.WrongNumber) (.type "ValueError") = some true ∧ PySem.W.kitOne K (.ref A.WrongNumber) (.ref A.WrongNumber) = some true ∧ ExcC K A.TooMuch ∧ PySem.W.findIn K (.ref A.TooMuch) "what" = some none ∧ PySem.W.exmOne K (.ref A.TooMuch) (.ref A.KeysError) = some true ∧ PySem.W.kitOne K (.ref A.TooMuch) (.ref A.BadCondition) = some false ∧ PySem.W.kitOne K (.ref A.TooMuch) (.ref A.BadKey) = some false ∧ PySem.W.kitOne K (.ref A.TooMuch) (.ref A.BadLabel) = some false ∧ PySem.W.kitOne K (.ref A.TooMuch) (.ref A.BadOption) = some false ∧ PySem.W.kitOne K (.ref A.TooMuch) (.ref A.BadStep) = some false ∧ PySem.W.kitOne K (.ref A.TooMuch) (.ref A.DoubleKey) = some false ∧ PySem.W.kitOne K (.ref A.TooMuch) (.ref A.KeysError) = some true ∧ PySem.W.kitOne K (.ref A.TooMuch) (.ref A.NoGuard) = some false ∧ PySem.W.kitOne K (.ref A.TooMuch) (.ref A.NoKey) = some false ∧ PySem.W.kitOne K (.ref A.TooMuch) (.ref A.NoLabel) = some false ∧ PySem.W.kitOne K (.ref A.TooMuch) (.ref A.NotText) = some false ∧ PySem.W.kitOne K (.ref A.TooMuch) (.ref A.Refused) = some false ∧ PySem.W.kitOne K (.ref A.TooMuch) (.ref A.TooDeep) = some false ∧ PySem.W.kitOne K (.ref A.TooMuch) (.ref A.TooMuch) = some true ∧ PySem.W.kitOne K (.ref A.TooMuch) (.ref A.Unreadable) = some false ∧ PySem.W.kitOne K (.ref A.TooMuch) (.ref A.Unwritable) = some false ∧ PySem.W.kitOne K (.ref A.TooMuch) (.type "ValueError") = some true ∧ PySem.W.kitOne K (.ref A.TooMuch) (.ref A.WrongNumber) = some false ∧ ExcC K A.NoGuard ∧ PySem.W.findIn K (.ref A.NoGuard) "name" = some none ∧ PySem.W.exmOne K (.ref A.NoGuard) (.ref A.KeysError) = some true ∧ PySem.W.kitOne K (.ref A.NoGuard) (.ref A.BadCondition) = some false ∧ PySem.W.kitOne K (.ref A.NoGuard) (.ref A.BadKey) = some false ∧ PySem.W.kitOne K (.ref A.NoGuard) (.ref A.BadLabel) = some false ∧ PySem.W.kitOne K (.ref A.NoGuard) (.ref A.BadOption) = some false ∧ PySem.W.kitOne K (.ref A.NoGuard) (.ref A.BadStep) = some false ∧ PySem.W.kitOne K (.ref A.NoGuard) (.ref A.DoubleKey) = some false ∧ PySem.W.kitOne K (.ref A.NoGuard) (.ref A.KeysError) = some true ∧ PySem.W.kitOne K (.ref A.NoGuard) (.ref A.NoGuard) = some true ∧ PySem.W.kitOne K (.ref A.NoGuard) (.ref A.NoKey) = some false ∧ PySem.W.kitOne K (.ref A.NoGuard) (.ref A.NoLabel) = some false ∧ PySem.W.kitOne K (.ref A.NoGuard) (.ref A.NotText) = some false ∧ PySem.W.kitOne K (.ref A.NoGuard) (.ref A.Refused) = some false ∧ PySem.W.kitOne K (.ref A.NoGuard) (.ref A.TooDeep) = some false ∧ PySem.W.kitOne K (.ref A.NoGuard) (.ref A.TooMuch) = some false ∧ PySem.W.kitOne K (.ref A.NoGuard) (.ref A.Unreadable) = some false ∧ PySem.W.kitOne K (.ref A.NoGuard) (.ref A.Unwritable) = some false ∧ PySem.W.kitOne K (.ref A.NoGuard) (.type "ValueError") = some true ∧ PySem.W.kitOne K (.ref A.NoGuard) (.ref A.WrongNumber) = some false :=
  ⟨T.xc_BadKey, T.nf_BadKey_key, T.em_BadKey_KeysError, T.ki_BadKey_BadCondition, T.ki_BadKey_BadKey, T.ki_BadKey_BadLabel, T.ki_BadKey_BadOption, T.ki_BadKey_BadStep, T.ki_BadKey_DoubleKey, T.ki_BadKey_KeysError, T.ki_BadKey_NoGuard, T.ki_BadKey_NoKey, T.ki_BadKey_NoLabel, T.ki_BadKey_NotText, T.ki_BadKey_Refused, T.ki_BadKey_TooDeep, T.ki_BadKey_TooMuch, T.ki_BadKey_Unreadable, T.ki_BadKey_Unwritable, T.ki_BadKey_ValueError, T.ki_BadKey_WrongNumber, T.xc_DoubleKey, T.nf_DoubleKey_key, T.em_DoubleKey_KeysError, T.ki_DoubleKey_BadCondition, T.ki_DoubleKey_BadKey, T.ki_DoubleKey_BadLabel, T.ki_DoubleKey_BadOption, T.ki_DoubleKey_BadStep, T.ki_DoubleKey_DoubleKey, T.ki_DoubleKey_KeysError, T.ki_DoubleKey_NoGuard, T.ki_DoubleKey_NoKey, T.ki_DoubleKey_NoLabel, T.ki_DoubleKey_NotText, T.ki_DoubleKey_Refused, T.ki_DoubleKey_TooDeep, T.ki_DoubleKey_TooMuch, T.ki_DoubleKey_Unreadable, T.ki_DoubleKey_Unwritable, T.ki_DoubleKey_ValueError, T.ki_DoubleKey_WrongNumber, T.xc_NoKey, T.nf_NoKey_key, T.em_NoKey_KeysError, T.ki_NoKey_BadCondition, T.ki_NoKey_BadKey, T.ki_NoKey_BadLabel, T.ki_NoKey_BadOption, T.ki_NoKey_BadStep, T.ki_NoKey_DoubleKey, T.ki_NoKey_KeysError, T.ki_NoKey_NoGuard, T.ki_NoKey_NoKey, T.ki_NoKey_NoLabel, T.ki_NoKey_NotText, T.ki_NoKey_Refused, T.ki_NoKey_TooDeep, T.ki_NoKey_TooMuch, T.ki_NoKey_Unreadable, T.ki_NoKey_Unwritable, T.ki_NoKey_ValueError, T.ki_NoKey_WrongNumber, T.xc_NotText, T.nf_NotText_position, T.em_NotText_KeysError, T.ki_NotText_BadCondition, T.ki_NotText_BadKey, T.ki_NotText_BadLabel, T.ki_NotText_BadOption, T.ki_NotText_BadStep, T.ki_NotText_DoubleKey, T.ki_NotText_KeysError, T.ki_NotText_NoGuard, T.ki_NotText_NoKey, T.ki_NotText_NoLabel, T.ki_NotText_NotText, T.ki_NotText_Refused, T.ki_NotText_TooDeep, T.ki_NotText_TooMuch, T.ki_NotText_Unreadable, T.ki_NotText_Unwritable, T.ki_NotText_ValueError, T.ki_NotText_WrongNumber, T.xc_TooDeep, T.nf_TooDeep_position, T.em_TooDeep_KeysError, T.ki_TooDeep_BadCondition, T.ki_TooDeep_BadKey, T.ki_TooDeep_BadLabel, T.ki_TooDeep_BadOption, T.ki_TooDeep_BadStep, T.ki_TooDeep_DoubleKey, T.ki_TooDeep_KeysError, T.ki_TooDeep_NoGuard, T.ki_TooDeep_NoKey, T.ki_TooDeep_NoLabel, T.ki_TooDeep_NotText, T.ki_TooDeep_Refused, T.ki_TooDeep_TooDeep, T.ki_TooDeep_TooMuch, T.ki_TooDeep_Unreadable, T.ki_TooDeep_Unwritable, T.ki_TooDeep_ValueError, T.ki_TooDeep_WrongNumber, T.xc_BadOption, T.nf_BadOption_name, T.nf_BadOption_value, T.em_BadOption_KeysError, T.ki_BadOption_BadCondition, T.ki_BadOption_BadKey, T.ki_BadOption_BadLabel, T.ki_BadOption_BadOption, T.ki_BadOption_BadStep, T.ki_BadOption_DoubleKey, T.ki_BadOption_KeysError, T.ki_BadOption_NoGuard, T.ki_BadOption_NoKey, T.ki_BadOption_NoLabel, T.ki_BadOption_NotText, T.ki_BadOption_Refused, T.ki_BadOption_TooDeep, T.ki_BadOption_TooMuch, T.ki_BadOption_Unreadable, T.ki_BadOption_Unwritable, T.ki_BadOption_ValueError, T.ki_BadOption_WrongNumber, T.xc_Unwritable, T.nf_Unwritable_reason, T.nf_Unwritable_path, T.em_Unwritable_KeysError, T.ki_Unwritable_BadCondition, T.ki_Unwritable_BadKey, T.ki_Unwritable_BadLabel, T.ki_Unwritable_BadOption, T.ki_Unwritable_BadStep, T.ki_Unwritable_DoubleKey, T.ki_Unwritable_KeysError, T.ki_Unwritable_NoGuard, T.ki_Unwritable_NoKey, T.ki_Unwritable_NoLabel, T.ki_Unwritable_NotText, T.ki_Unwritable_Refused, T.ki_Unwritable_TooDeep, T.ki_Unwritable_TooMuch, T.ki_Unwritable_Unreadable, T.ki_Unwritable_Unwritable, T.ki_Unwritable_ValueError, T.ki_Unwritable_WrongNumber, T.xc_Unreadable, T.nf_Unreadable_reason, T.nf_Unreadable_path, T.em_Unreadable_KeysError, T.ki_Unreadable_BadCondition, T.ki_Unreadable_BadKey, T.ki_Unreadable_BadLabel, T.ki_Unreadable_BadOption, T.ki_Unreadable_BadStep, T.ki_Unreadable_DoubleKey, T.ki_Unreadable_KeysError, T.ki_Unreadable_NoGuard, T.ki_Unreadable_NoKey, T.ki_Unreadable_NoLabel, T.ki_Unreadable_NotText, T.ki_Unreadable_Refused, T.ki_Unreadable_TooDeep, T.ki_Unreadable_TooMuch, T.ki_Unreadable_Unreadable, T.ki_Unreadable_Unwritable, T.ki_Unreadable_ValueError, T.ki_Unreadable_WrongNumber, T.xc_Refused, T.nf_Refused_side, T.nf_Refused_reason, T.nf_Refused_path, T.em_Refused_KeysError, T.ki_Refused_BadCondition, T.ki_Refused_BadKey, T.ki_Refused_BadLabel, T.ki_Refused_BadOption, T.ki_Refused_BadStep, T.ki_Refused_DoubleKey, T.ki_Refused_KeysError, T.ki_Refused_NoGuard, T.ki_Refused_NoKey, T.ki_Refused_NoLabel, T.ki_Refused_NotText, T.ki_Refused_Refused, T.ki_Refused_TooDeep, T.ki_Refused_TooMuch, T.ki_Refused_Unreadable, T.ki_Refused_Unwritable, T.ki_Refused_ValueError, T.ki_Refused_WrongNumber, T.xc_BadCondition, T.nf_BadCondition_value, T.em_BadCondition_KeysError, T.ki_BadCondition_BadCondition, T.ki_BadCondition_BadKey, T.ki_BadCondition_BadLabel, T.ki_BadCondition_BadOption, T.ki_BadCondition_BadStep, T.ki_BadCondition_DoubleKey, T.ki_BadCondition_KeysError, T.ki_BadCondition_NoGuard, T.ki_BadCondition_NoKey, T.ki_BadCondition_NoLabel, T.ki_BadCondition_NotText, T.ki_BadCondition_Refused, T.ki_BadCondition_TooDeep, T.ki_BadCondition_TooMuch, T.ki_BadCondition_Unreadable, T.ki_BadCondition_Unwritable, T.ki_BadCondition_ValueError, T.ki_BadCondition_WrongNumber, T.xc_BadLabel, T.nf_BadLabel_name, T.em_BadLabel_KeysError, T.ki_BadLabel_BadCondition, T.ki_BadLabel_BadKey, T.ki_BadLabel_BadLabel, T.ki_BadLabel_BadOption, T.ki_BadLabel_BadStep, T.ki_BadLabel_DoubleKey, T.ki_BadLabel_KeysError, T.ki_BadLabel_NoGuard, T.ki_BadLabel_NoKey, T.ki_BadLabel_NoLabel, T.ki_BadLabel_NotText, T.ki_BadLabel_Refused, T.ki_BadLabel_TooDeep, T.ki_BadLabel_TooMuch, T.ki_BadLabel_Unreadable, T.ki_BadLabel_Unwritable, T.ki_BadLabel_ValueError, T.ki_BadLabel_WrongNumber, T.xc_NoLabel, T.nf_NoLabel_label, T.em_NoLabel_KeysError, T.ki_NoLabel_BadCondition, T.ki_NoLabel_BadKey, T.ki_NoLabel_BadLabel, T.ki_NoLabel_BadOption, T.ki_NoLabel_BadStep, T.ki_NoLabel_DoubleKey, T.ki_NoLabel_KeysError, T.ki_NoLabel_NoGuard, T.ki_NoLabel_NoKey, T.ki_NoLabel_NoLabel, T.ki_NoLabel_NotText, T.ki_NoLabel_Refused, T.ki_NoLabel_TooDeep, T.ki_NoLabel_TooMuch, T.ki_NoLabel_Unreadable, T.ki_NoLabel_Unwritable, T.ki_NoLabel_ValueError, T.ki_NoLabel_WrongNumber, T.xc_BadStep, T.nf_BadStep_index, T.em_BadStep_KeysError, T.ki_BadStep_BadCondition, T.ki_BadStep_BadKey, T.ki_BadStep_BadLabel, T.ki_BadStep_BadOption, T.ki_BadStep_BadStep, T.ki_BadStep_DoubleKey, T.ki_BadStep_KeysError, T.ki_BadStep_NoGuard, T.ki_BadStep_NoKey, T.ki_BadStep_NoLabel, T.ki_BadStep_NotText, T.ki_BadStep_Refused, T.ki_BadStep_TooDeep, T.ki_BadStep_TooMuch, T.ki_BadStep_Unreadable, T.ki_BadStep_Unwritable, T.ki_BadStep_ValueError, T.ki_BadStep_WrongNumber, T.xc_WrongNumber, T.nf_WrongNumber_wanted, T.nf_WrongNumber_given, T.em_WrongNumber_KeysError, T.ki_WrongNumber_BadCondition, T.ki_WrongNumber_BadKey, T.ki_WrongNumber_BadLabel, T.ki_WrongNumber_BadOption, T.ki_WrongNumber_BadStep, T.ki_WrongNumber_DoubleKey, T.ki_WrongNumber_KeysError, T.ki_WrongNumber_NoGuard, T.ki_WrongNumber_NoKey, T.ki_WrongNumber_NoLabel, T.ki_WrongNumber_NotText, T.ki_WrongNumber_Refused, T.ki_WrongNumber_TooDeep, T.ki_WrongNumber_TooMuch, T.ki_WrongNumber_Unreadable, T.ki_WrongNumber_Unwritable, T.ki_WrongNumber_ValueError, T.ki_WrongNumber_WrongNumber, T.xc_TooMuch, T.nf_TooMuch_what, T.em_TooMuch_KeysError, T.ki_TooMuch_BadCondition, T.ki_TooMuch_BadKey, T.ki_TooMuch_BadLabel, T.ki_TooMuch_BadOption, T.ki_TooMuch_BadStep, T.ki_TooMuch_DoubleKey, T.ki_TooMuch_KeysError, T.ki_TooMuch_NoGuard, T.ki_TooMuch_NoKey, T.ki_TooMuch_NoLabel, T.ki_TooMuch_NotText, T.ki_TooMuch_Refused, T.ki_TooMuch_TooDeep, T.ki_TooMuch_TooMuch, T.ki_TooMuch_Unreadable, T.ki_TooMuch_Unwritable, T.ki_TooMuch_ValueError, T.ki_TooMuch_WrongNumber, T.xc_NoGuard, T.nf_NoGuard_name, T.em_NoGuard_KeysError, T.ki_NoGuard_BadCondition, T.ki_NoGuard_BadKey, T.ki_NoGuard_BadLabel, T.ki_NoGuard_BadOption, T.ki_NoGuard_BadStep, T.ki_NoGuard_DoubleKey, T.ki_NoGuard_KeysError, T.ki_NoGuard_NoGuard, T.ki_NoGuard_NoKey, T.ki_NoGuard_NoLabel, T.ki_NoGuard_NotText, T.ki_NoGuard_Refused, T.ki_NoGuard_TooDeep, T.ki_NoGuard_TooMuch, T.ki_NoGuard_Unreadable, T.ki_NoGuard_Unwritable, T.ki_NoGuard_ValueError, T.ki_NoGuard_WrongNumber⟩
local macro_rules | `(tactic| walk_at "vc") => `(tactic| try simp only [KQ.q_uMkX, KQ.q_uXvF, KQ.q_uIsV, KQ.vw_xvT, KQ.q_uVar, KQ.q_uC, KQ.q_u2, KQ.q_uOp, KQ.q_uUn, KQ.q_uB, KQ.q_uAnd, KQ.q_uOr, KQ.q_uNot, KQ.q_uAndV, KQ.q_uOrV, KQ.q_uNotV, KQ.q_uIf, KQ.q_uNil, KQ.q_uCons, KQ.q_uTup, KQ.q_uLst, KQ.q_uLstC, KQ.q_uCb, KQ.q_uNext, KQ.q_uSeq, KQ.q_uBreak, KQ.q_uCont, KQ.q_uCut, KQ.q_uDrop, KQ.q_uRet, KQ.q_uRetN, KQ.q_uIfS, KQ.q_uNever, KQ.q_uSet, KQ.q_uAsg, KQ.q_uPar, KQ.q_uAug, KQ.q_uFor, KQ.q_uSeqI, KQ.q_uCall, KQ.q_uYes, KQ.q_uLc, KQ.q_uLcC, KQ.q_uPart, KQ.q_uNoPart, KQ.q_uSl, KQ.q_uIsi2, KQ.q_uRng1, KQ.q_uRng2, KQ.q_uStrI, KQ.q_uEnum, KQ.q_uFld, KQ.q_uSFld, KQ.q_uDPut, KQ.q_uLPut, KQ.q_uFrz, KQ.q_uMt, KQ.q_uMm, KQ.q_uForD, KQ.q_uLcD, KQ.q_uMeth, KQ.q_uDNew, KQ.q_uFldAug, KQ.q_uDisp, KQ.q_uIsi1, KQ.q_uOBin, KQ.q_uOIx, KQ.q_uOIn, KQ.q_uOLen, KQ.q_uTry, KQ.q_uXf, KQ.q_uIsE, KQ.q_uRaise, KQ.q_uCallK, KQ.q_uLcX, KQ.q_uNewK, KQ.q_uOEq, KQ.q_uListC, KQ.q_uRev, KQ.q_uEnum2, KQ.q_uZip, KQ.q_uAddC, KQ.q_uFs, KQ.q_uOBin2, KQ.q_uOInv, KQ.q_uCallO, KQ.q_uSrt, KQ.q_uSet0, KQ.q_uSAdd, KQ.q_uSIn, KQ.q_uChain, KQ.q_uKGet, KQ.q_uTryF, KQ.q_uMethZ, KQ.q_uTryZ, KQ.q_uCallC, KQ.q_uNewKL, KQ.q_uMatch, KQ.q_uKIx, KQ.q_uRep2, KQ.vw_refE, KQ.vw_non, KQ.vw_bl, KQ.vw_int, KQ.vw_str, KQ.vw_ty, KQ.vw_lstE, KQ.vw_tupE, KQ.vw_scrE, KQ.vw_dicE, KQ.vw_insE, KQ.put_sameE, KQ.put_putE, KQ.getD_some, KQ.pat_nm, KQ.pat_tp, KQ.pats_nil, KQ.pats_cons, KQ.bind_s, KQ.loop_nil, KQ.loop_cons, KQ.lcl_nil, KQ.lcl_cons, KQ.prs_nil, KQ.prs_cons, KQ.add_ii, KQ.add_ss, KQ.add_ll, KQ.add_tt, KQ.sortr_l, KQ.les_ss, KQ.int2_ii, KQ.mul_ii, KQ.mul_li, KQ.mul2_ii, KQ.mul2_li, KQ.mul2_si, KQ.js_nil, KQ.js_cons, KQ.fmt_s, KQ.fmt_n, KQ.fmt_0s, KQ.fmt_0i, KQ.neg_i, KQ.is_g, KQ.isk_n, KQ.isk_b, KQ.is_nn, KQ.is_bn, KQ.is_in, KQ.is_sn, KQ.is_rn, KQ.is_ln, KQ.is_tn, KQ.is_dn, KQ.is_on, KQ.is_nb, KQ.is_bb, KQ.is_ib, KQ.is_sb, KQ.is_rb, KQ.is_lb, KQ.is_tb, KQ.is_ob, KQ.eq_ii, KQ.eq_ss, KQ.eq_bb, KQ.ix_s, KQ.ix_l, KQ.ix_t, KQ.ix_c, KQ.ix_d, KQ.key_i, KQ.key_s, KQ.at_0, KQ.at_1, KQ.at_2, KQ.in_s, KQ.in_l, KQ.in_t, KQ.in_d, KQ.fl_i, KQ.fl_s, KQ.fl_b, KQ.fl_n, KQ.len_s, KQ.len_l, KQ.len_c, KQ.len_t, KQ.len_d, KQ.abs_i, KQ.int_i, KQ.int_b, KQ.int_s, KQ.str_i, KQ.str_s, KQ.mm_ii, KQ.list_l, KQ.list_t, KQ.list_c, KQ.tuple_l, KQ.tuple_t, KQ.sl_s, KQ.sl_l, KQ.sl_t, KQ.sl_c, KQ.asl_l, KQ.asl_c, KQ.asl_t, KQ.ok_l, KQ.ok_s, KQ.app_1, KQ.ext_1, KQ.ins_1, KQ.pop_1, KQ.join_t, KQ.join_l, KQ.isdig, KQ.rmp, KQ.all_l, KQ.isi_2, KQ.ty_n, KQ.ty_b, KQ.ty_i, KQ.ty_s, KQ.ty_l, KQ.ty_t, KQ.ty_o, KQ.cls_t, KQ.cls_c, KQ.k_ni, KQ.k_ns, KQ.k_nb, KQ.k_nl, KQ.k_nt, KQ.k_bi, KQ.k_bs, KQ.k_bb, KQ.k_bl, KQ.k_bt, KQ.k_ii, KQ.k_is, KQ.k_ib, KQ.k_il, KQ.k_it, KQ.k_si, KQ.k_ss, KQ.k_sb, KQ.k_sl, KQ.k_st, KQ.k_li, KQ.k_ls, KQ.k_lb, KQ.k_ll, KQ.k_lt, KQ.k_ti, KQ.k_ts, KQ.k_tb, KQ.k_tl, KQ.k_tt, KQ.ofS_inj, KQ.fget_c, KQ.fget_n, KQ.fputN_n, KQ.fputN_c, KQ.fputX_n, KQ.fputX_c, KQ.map_vw0, KQ.map_vw, KQ.xFrmE, KQ.hX_nil, KQ.hX_only, KQ.hX_named, KQ.len_tf1, KQ.len_tf2, KQ.len_tf3, KQ.clrU_nx, KQ.clrU_rt, KQ.clrU_bk, KQ.clrU_ct, KQ.vw_excE, KQ.atR_e, KQ.wipeR_n, KQ.wipeR_c, KQ.endX_e, KQ.endU_nx, KQ.endU_rt, KQ.srcV_e, KQ.srcF_e, KQ.cmul_rE, KQ.cmul_lE, KQ.cpow_E, KQ.szT0, KQ.szT1, KQ.szT2, KQ.szT3, KQ.szT4, KQ.szT5, KQ.szT6, KQ.szT7, KQ.szT8, KQ.szT0, KQ.ex_sw1, KQ.ex_sw2, KQ.kT_i, KQ.kT_s, KQ.sgn_inj, KQ.vw_kT, KQ.beq_ft, KQ.beq_tf, KQ.pick_nilE, KQ.pick_0E, KQ.pick_1E, KQ.pick_2E, KQ.str4_i, KQ.str4_s, KQ.str4_b, KQ.str4_n, KQ.list3_l, KQ.list3_t, KQ.list3_c, KQ.list3_d, KQ.seqOf_l, KQ.seqOf_t, KQ.seqOf_c, KQ.seqOf_d, KQ.lenE0, KQ.lenE1, KQ.lenE2, KQ.lenE3, KQ.lenE4, KQ.lenE5, KQ.lenE6, KQ.lenE7, KQ.lenE8, KQ.lenE9, KQ.lenE10, KQ.lenS0, KQ.lenS1, KQ.lenS2, KQ.lenS3, KQ.lenS4, KQ.lenS5, KQ.lenS6, KQ.lenS7, KQ.lenS8, KQ.lenS9, KQ.lenS10, KQ.mapS_nil, KQ.mapS_cons, KQ.nil_l, KQ.eqF_g, KQ.eq_nn, KQ.eq_ns, KQ.eq_sn, KQ.eq_ni, KQ.eq_in, KQ.eq_is, KQ.eq_si, KQ.popAt_1, KQ.ix3_0, KQ.ix3_1, KQ.ix3_2, KQ.q_qCell, KQ.strp, KQ.upr, KQ.q_uCv, KQ.q_rep4, KQ.q_uAsgL, KQ.q_uPar3, KQ.q_uCases0, KQ.q_uCases1, Option.isSome_none, Option.isSome_some, and_assoc, decide_true, decide_false, eq_self, not_true_eq_false, not_false_eq_true, reduceCtorEq, exists_false, or_false, false_or, false_and, and_false, true_and, and_true, true_or, or_true, if_true, if_false, Bool.false_xor, Bool.true_xor, Bool.not_eq_true', decide_eq_false_iff_not, decide_eq_true_eq, Bool.false_eq_true, Bool.not_true, Bool.not_false, ite_true, ite_false, exists_const, List.set_cons_zero, List.set_cons_succ, List.getElem?_cons_zero, List.getElem?_cons_succ, Option.some.injEq, KQ.Tr.int.injEq, KQ.Tr.ref.injEq, KQ.Tr.bl.injEq, KQ.Tr.str.injEq, KQ.Tr.lst.injEq, KQ.Tr.tup.injEq, KQ.Tr.dic.injEq, KQ.Tr.ins.injEq, KQ.Tr.scr.injEq, KQ.Tr.exc.injEq, exists_eq_left', exists_eq_left, exists_eq_right, exists_eq_right', exists_eq, exists_eq', exists_and_left, exists_and_right, List.cons_append, List.nil_append, List.cons.injEq, Int.reduceLT, Int.reduceLE, Int.reduceNeg, Int.reducePow, Int.reduceEq, Int.reduceAdd, Int.reduceSub, Int.reduceMul, KQ.ofS_inj, String.reduceEq, forall_const, false_imp_iff, implies_true, exists_prop, PySem.Value.type.injEq, PySem.Value.ref.injEq, beq_self_eq_true, Bool.or_true, Bool.or_false, Bool.true_or, Bool.false_or, Bool.or_self, forall_eq, forall_eq', and_imp, List.length_map, List.length_append, List.isEmpty_nil, List.isEmpty_cons, KQ.sget_cells, KQ.sget_at, KQ.sget_rest, KQ.sget_seed, KQ.sget_room, KQ.sget_long, KQ.sput_at, KQ.sput_rest, KQ.sput_seed, KQ.sput_room, KQ.sput_long, KQ.sN_at, KQ.sN_rest, KQ.sN_seed, KQ.sN_room, KQ.sN_long, KQ.sk_len, KQ.s5get_cells, KQ.s5get_at, KQ.s5get_rest, KQ.s5get_seed, KQ.s5get_room, KQ.s5put_at, KQ.s5put_rest, KQ.s5put_seed, KQ.s5N_at, KQ.s5N_rest, KQ.s5N_seed, KQ.s5k_len, KQ.srcT5_eq, KQ.srcT_eq, KQ.vw_vT, KQ.vw_mT, KQ.q_plN, KQ.vw_labT, KQ.vw_nM, KQ.vw_payT, KQ.vw_seenT, KQ.vw_runT, KQ.vw_progT, KQ.vw_outR, KQ.vw_psT, KQ.vw_psO, KQ.q_uNewP, KQ.q_uRepC, *])
local macro_rules | `(tactic| walk_at "vn") => `(tactic| try simp only [KQ.q_uMkX, KQ.q_uXvF, KQ.q_uIsV, KQ.vw_xvT, KQ.q_uVar, KQ.q_uC, KQ.q_u2, KQ.q_uOp, KQ.q_uUn, KQ.q_uB, KQ.q_uAnd, KQ.q_uOr, KQ.q_uNot, KQ.q_uAndV, KQ.q_uOrV, KQ.q_uNotV, KQ.q_uIf, KQ.q_uNil, KQ.q_uCons, KQ.q_uTup, KQ.q_uLst, KQ.q_uLstC, KQ.q_uCb, KQ.q_uNext, KQ.q_uSeq, KQ.q_uBreak, KQ.q_uCont, KQ.q_uCut, KQ.q_uDrop, KQ.q_uRet, KQ.q_uRetN, KQ.q_uIfS, KQ.q_uNever, KQ.q_uSet, KQ.q_uAsg, KQ.q_uPar, KQ.q_uAug, KQ.q_uFor, KQ.q_uSeqI, KQ.q_uCall, KQ.q_uYes, KQ.q_uLc, KQ.q_uLcC, KQ.q_uPart, KQ.q_uNoPart, KQ.q_uSl, KQ.q_uIsi2, KQ.q_uRng1, KQ.q_uRng2, KQ.q_uStrI, KQ.q_uEnum, KQ.q_uFld, KQ.q_uSFld, KQ.q_uDPut, KQ.q_uLPut, KQ.q_uFrz, KQ.q_uMt, KQ.q_uMm, KQ.q_uForD, KQ.q_uLcD, KQ.q_uMeth, KQ.q_uDNew, KQ.q_uFldAug, KQ.q_uDisp, KQ.q_uIsi1, KQ.q_uOBin, KQ.q_uOIx, KQ.q_uOIn, KQ.q_uOLen, KQ.q_uTry, KQ.q_uXf, KQ.q_uIsE, KQ.q_uRaise, KQ.q_uCallK, KQ.q_uLcX, KQ.q_uNewK, KQ.q_uOEq, KQ.q_uListC, KQ.q_uRev, KQ.q_uEnum2, KQ.q_uZip, KQ.q_uAddC, KQ.q_uFs, KQ.q_uOBin2, KQ.q_uOInv, KQ.q_uCallO, KQ.q_uSrt, KQ.q_uSet0, KQ.q_uSAdd, KQ.q_uSIn, KQ.q_uChain, KQ.q_uKGet, KQ.q_uTryF, KQ.q_uMethZ, KQ.q_uTryZ, KQ.q_uCallC, KQ.q_uNewKL, KQ.q_uMatch, KQ.q_uKIx, KQ.q_uRep2, KQ.vw_refE, KQ.vw_non, KQ.vw_bl, KQ.vw_int, KQ.vw_str, KQ.vw_ty, KQ.vw_lstE, KQ.vw_tupE, KQ.vw_scrE, KQ.vw_dicE, KQ.vw_insE, KQ.put_sameE, KQ.put_putE, KQ.getD_some, KQ.pat_nm, KQ.pat_tp, KQ.pats_nil, KQ.pats_cons, KQ.bind_s, KQ.loop_nil, KQ.lcl_nil, KQ.lcl_cons, KQ.prs_nil, KQ.prs_cons, KQ.add_ii, KQ.add_ss, KQ.add_ll, KQ.add_tt, KQ.sortr_l, KQ.les_ss, KQ.int2_ii, KQ.mul_ii, KQ.mul_li, KQ.mul2_ii, KQ.mul2_li, KQ.mul2_si, KQ.js_nil, KQ.js_cons, KQ.fmt_s, KQ.fmt_n, KQ.fmt_0s, KQ.fmt_0i, KQ.neg_i, KQ.is_g, KQ.isk_n, KQ.isk_b, KQ.is_nn, KQ.is_bn, KQ.is_in, KQ.is_sn, KQ.is_rn, KQ.is_ln, KQ.is_tn, KQ.is_dn, KQ.is_on, KQ.is_nb, KQ.is_bb, KQ.is_ib, KQ.is_sb, KQ.is_rb, KQ.is_lb, KQ.is_tb, KQ.is_ob, KQ.eq_ii, KQ.eq_ss, KQ.eq_bb, KQ.ix_s, KQ.ix_l, KQ.ix_t, KQ.ix_c, KQ.ix_d, KQ.key_i, KQ.key_s, KQ.at_0, KQ.at_1, KQ.at_2, KQ.in_s, KQ.in_l, KQ.in_t, KQ.in_d, KQ.fl_i, KQ.fl_s, KQ.fl_b, KQ.fl_n, KQ.len_s, KQ.len_l, KQ.len_c, KQ.len_t, KQ.len_d, KQ.abs_i, KQ.int_i, KQ.int_b, KQ.int_s, KQ.str_i, KQ.str_s, KQ.mm_ii, KQ.list_l, KQ.list_t, KQ.list_c, KQ.tuple_l, KQ.tuple_t, KQ.sl_s, KQ.sl_l, KQ.sl_t, KQ.sl_c, KQ.asl_l, KQ.asl_c, KQ.asl_t, KQ.ok_l, KQ.ok_s, KQ.app_1, KQ.ext_1, KQ.ins_1, KQ.pop_1, KQ.join_t, KQ.join_l, KQ.isdig, KQ.rmp, KQ.all_l, KQ.isi_2, KQ.ty_n, KQ.ty_b, KQ.ty_i, KQ.ty_s, KQ.ty_l, KQ.ty_t, KQ.ty_o, KQ.cls_t, KQ.cls_c, KQ.k_ni, KQ.k_ns, KQ.k_nb, KQ.k_nl, KQ.k_nt, KQ.k_bi, KQ.k_bs, KQ.k_bb, KQ.k_bl, KQ.k_bt, KQ.k_ii, KQ.k_is, KQ.k_ib, KQ.k_il, KQ.k_it, KQ.k_si, KQ.k_ss, KQ.k_sb, KQ.k_sl, KQ.k_st, KQ.k_li, KQ.k_ls, KQ.k_lb, KQ.k_ll, KQ.k_lt, KQ.k_ti, KQ.k_ts, KQ.k_tb, KQ.k_tl, KQ.k_tt, KQ.ofS_inj, KQ.fget_c, KQ.fget_n, KQ.fputN_n, KQ.fputN_c, KQ.fputX_n, KQ.fputX_c, KQ.map_vw0, KQ.map_vw, KQ.xFrmE, KQ.hX_nil, KQ.hX_only, KQ.hX_named, KQ.len_tf1, KQ.len_tf2, KQ.len_tf3, KQ.clrU_nx, KQ.clrU_rt, KQ.clrU_bk, KQ.clrU_ct, KQ.vw_excE, KQ.atR_e, KQ.wipeR_n, KQ.wipeR_c, KQ.endX_e, KQ.endU_nx, KQ.endU_rt, KQ.srcV_e, KQ.srcF_e, KQ.cmul_rE, KQ.cmul_lE, KQ.cpow_E, KQ.szT0, KQ.szT1, KQ.szT2, KQ.szT3, KQ.szT4, KQ.szT5, KQ.szT6, KQ.szT7, KQ.szT8, KQ.szT0, KQ.ex_sw1, KQ.ex_sw2, KQ.kT_i, KQ.kT_s, KQ.sgn_inj, KQ.vw_kT, KQ.beq_ft, KQ.beq_tf, KQ.pick_nilE, KQ.pick_0E, KQ.pick_1E, KQ.pick_2E, KQ.str4_i, KQ.str4_s, KQ.str4_b, KQ.str4_n, KQ.list3_l, KQ.list3_t, KQ.list3_c, KQ.list3_d, KQ.seqOf_l, KQ.seqOf_t, KQ.seqOf_c, KQ.seqOf_d, KQ.lenE0, KQ.lenE1, KQ.lenE2, KQ.lenE3, KQ.lenE4, KQ.lenE5, KQ.lenE6, KQ.lenE7, KQ.lenE8, KQ.lenE9, KQ.lenE10, KQ.lenS0, KQ.lenS1, KQ.lenS2, KQ.lenS3, KQ.lenS4, KQ.lenS5, KQ.lenS6, KQ.lenS7, KQ.lenS8, KQ.lenS9, KQ.lenS10, KQ.mapS_nil, KQ.mapS_cons, KQ.nil_l, KQ.eqF_g, KQ.eq_nn, KQ.eq_ns, KQ.eq_sn, KQ.eq_ni, KQ.eq_in, KQ.eq_is, KQ.eq_si, KQ.popAt_1, KQ.ix3_0, KQ.ix3_1, KQ.ix3_2, KQ.q_qCell, KQ.strp, KQ.upr, KQ.q_uCv, KQ.q_rep4, KQ.q_uAsgL, KQ.q_uPar3, KQ.q_uCases0, KQ.q_uCases1, Option.isSome_none, Option.isSome_some, and_assoc, decide_true, decide_false, eq_self, not_true_eq_false, not_false_eq_true, reduceCtorEq, exists_false, or_false, false_or, false_and, and_false, true_and, and_true, true_or, or_true, if_true, if_false, Bool.false_xor, Bool.true_xor, Bool.not_eq_true', decide_eq_false_iff_not, decide_eq_true_eq, Bool.false_eq_true, Bool.not_true, Bool.not_false, ite_true, ite_false, exists_const, List.set_cons_zero, List.set_cons_succ, List.getElem?_cons_zero, List.getElem?_cons_succ, Option.some.injEq, KQ.Tr.int.injEq, KQ.Tr.ref.injEq, KQ.Tr.bl.injEq, KQ.Tr.str.injEq, KQ.Tr.lst.injEq, KQ.Tr.tup.injEq, KQ.Tr.dic.injEq, KQ.Tr.ins.injEq, KQ.Tr.scr.injEq, KQ.Tr.exc.injEq, exists_eq_left', exists_eq_left, exists_eq_right, exists_eq_right', exists_eq, exists_eq', exists_and_left, exists_and_right, List.cons_append, List.nil_append, List.cons.injEq, Int.reduceLT, Int.reduceLE, Int.reduceNeg, Int.reducePow, Int.reduceEq, Int.reduceAdd, Int.reduceSub, Int.reduceMul, KQ.ofS_inj, String.reduceEq, forall_const, false_imp_iff, implies_true, exists_prop, PySem.Value.type.injEq, PySem.Value.ref.injEq, beq_self_eq_true, Bool.or_true, Bool.or_false, Bool.true_or, Bool.false_or, Bool.or_self, forall_eq, forall_eq', and_imp, List.length_map, List.length_append, List.isEmpty_nil, List.isEmpty_cons, KQ.sget_cells, KQ.sget_at, KQ.sget_rest, KQ.sget_seed, KQ.sget_room, KQ.sget_long, KQ.sput_at, KQ.sput_rest, KQ.sput_seed, KQ.sput_room, KQ.sput_long, KQ.sN_at, KQ.sN_rest, KQ.sN_seed, KQ.sN_room, KQ.sN_long, KQ.sk_len, KQ.s5get_cells, KQ.s5get_at, KQ.s5get_rest, KQ.s5get_seed, KQ.s5get_room, KQ.s5put_at, KQ.s5put_rest, KQ.s5put_seed, KQ.s5N_at, KQ.s5N_rest, KQ.s5N_seed, KQ.s5k_len, KQ.srcT5_eq, KQ.srcT_eq, KQ.vw_vT, KQ.vw_mT, KQ.q_plN, KQ.vw_labT, KQ.vw_nM, KQ.vw_payT, KQ.vw_seenT, KQ.vw_runT, KQ.vw_progT, KQ.vw_outR, KQ.vw_psT, KQ.vw_psO, KQ.q_uNewP, KQ.q_uRepC, *])
local macro_rules | `(tactic| walk_at "vm") => `(tactic| try simp only [KQ.q_uMkX, KQ.q_uXvF, KQ.q_uIsV, KQ.vw_xvT, KQ.q_uVar, KQ.q_uC, KQ.q_u2, KQ.q_uOp, KQ.q_uUn, KQ.q_uB, KQ.q_uAnd, KQ.q_uOr, KQ.q_uNot, KQ.q_uAndV, KQ.q_uOrV, KQ.q_uNotV, KQ.q_uIf, KQ.q_uNil, KQ.q_uCons, KQ.q_uTup, KQ.q_uLst, KQ.q_uLstC, KQ.q_uCb, KQ.q_uNext, KQ.q_uSeq, KQ.q_uBreak, KQ.q_uCont, KQ.q_uCut, KQ.q_uDrop, KQ.q_uRet, KQ.q_uRetN, KQ.q_uIfS, KQ.q_uNever, KQ.q_uSet, KQ.q_uAsg, KQ.q_uPar, KQ.q_uAug, KQ.q_uFor, KQ.q_uSeqI, KQ.q_uCall, KQ.q_uYes, KQ.q_uLc, KQ.q_uLcC, KQ.q_uPart, KQ.q_uNoPart, KQ.q_uSl, KQ.q_uIsi2, KQ.q_uRng1, KQ.q_uRng2, KQ.q_uStrI, KQ.q_uEnum, KQ.q_uFld, KQ.q_uSFld, KQ.q_uDPut, KQ.q_uLPut, KQ.q_uFrz, KQ.q_uMt, KQ.q_uMm, KQ.q_uForD, KQ.q_uLcD, KQ.q_uMeth, KQ.q_uDNew, KQ.q_uFldAug, KQ.q_uDisp, KQ.q_uIsi1, KQ.q_uOBin, KQ.q_uOIx, KQ.q_uOIn, KQ.q_uOLen, KQ.q_uTry, KQ.q_uXf, KQ.q_uIsE, KQ.q_uRaise, KQ.q_uCallK, KQ.q_uLcX, KQ.q_uNewK, KQ.q_uOEq, KQ.q_uListC, KQ.q_uRev, KQ.q_uEnum2, KQ.q_uZip, KQ.q_uAddC, KQ.q_uFs, KQ.q_uOBin2, KQ.q_uOInv, KQ.q_uCallO, KQ.q_uSrt, KQ.q_uSet0, KQ.q_uSAdd, KQ.q_uSIn, KQ.q_uChain, KQ.q_uKGet, KQ.q_uTryF, KQ.q_uMethZ, KQ.q_uTryZ, KQ.q_uCallC, KQ.q_uNewKL, KQ.q_uMatch, KQ.q_uKIx, KQ.q_uRep2, KQ.vw_refE, KQ.vw_non, KQ.vw_bl, KQ.vw_int, KQ.vw_str, KQ.vw_ty, KQ.vw_lstE, KQ.vw_tupE, KQ.vw_scrE, KQ.vw_dicE, KQ.vw_insE, KQ.put_sameE, KQ.put_putE, KQ.getD_some, KQ.pat_nm, KQ.pat_tp, KQ.pats_nil, KQ.pats_cons, KQ.bind_s, KQ.loop_nil, KQ.lcl_nil, KQ.prs_nil, KQ.prs_cons, KQ.add_ii, KQ.add_ss, KQ.add_ll, KQ.add_tt, KQ.sortr_l, KQ.les_ss, KQ.int2_ii, KQ.mul_ii, KQ.mul_li, KQ.mul2_ii, KQ.mul2_li, KQ.mul2_si, KQ.js_nil, KQ.js_cons, KQ.fmt_s, KQ.fmt_n, KQ.fmt_0s, KQ.fmt_0i, KQ.neg_i, KQ.is_g, KQ.isk_n, KQ.isk_b, KQ.is_nn, KQ.is_bn, KQ.is_in, KQ.is_sn, KQ.is_rn, KQ.is_ln, KQ.is_tn, KQ.is_dn, KQ.is_on, KQ.is_nb, KQ.is_bb, KQ.is_ib, KQ.is_sb, KQ.is_rb, KQ.is_lb, KQ.is_tb, KQ.is_ob, KQ.eq_ii, KQ.eq_ss, KQ.eq_bb, KQ.ix_s, KQ.ix_l, KQ.ix_t, KQ.ix_c, KQ.ix_d, KQ.key_i, KQ.key_s, KQ.at_0, KQ.at_1, KQ.at_2, KQ.in_s, KQ.in_l, KQ.in_t, KQ.in_d, KQ.fl_i, KQ.fl_s, KQ.fl_b, KQ.fl_n, KQ.len_s, KQ.len_l, KQ.len_c, KQ.len_t, KQ.len_d, KQ.abs_i, KQ.int_i, KQ.int_b, KQ.int_s, KQ.str_i, KQ.str_s, KQ.mm_ii, KQ.list_l, KQ.list_t, KQ.list_c, KQ.tuple_l, KQ.tuple_t, KQ.sl_s, KQ.sl_l, KQ.sl_t, KQ.sl_c, KQ.asl_l, KQ.asl_c, KQ.asl_t, KQ.ok_l, KQ.ok_s, KQ.app_1, KQ.ext_1, KQ.ins_1, KQ.pop_1, KQ.join_t, KQ.join_l, KQ.isdig, KQ.rmp, KQ.all_l, KQ.isi_2, KQ.ty_n, KQ.ty_b, KQ.ty_i, KQ.ty_s, KQ.ty_l, KQ.ty_t, KQ.ty_o, KQ.cls_t, KQ.cls_c, KQ.k_ni, KQ.k_ns, KQ.k_nb, KQ.k_nl, KQ.k_nt, KQ.k_bi, KQ.k_bs, KQ.k_bb, KQ.k_bl, KQ.k_bt, KQ.k_ii, KQ.k_is, KQ.k_ib, KQ.k_il, KQ.k_it, KQ.k_si, KQ.k_ss, KQ.k_sb, KQ.k_sl, KQ.k_st, KQ.k_li, KQ.k_ls, KQ.k_lb, KQ.k_ll, KQ.k_lt, KQ.k_ti, KQ.k_ts, KQ.k_tb, KQ.k_tl, KQ.k_tt, KQ.ofS_inj, KQ.fget_c, KQ.fget_n, KQ.fputN_n, KQ.fputN_c, KQ.fputX_n, KQ.fputX_c, KQ.map_vw0, KQ.map_vw, KQ.xFrmE, KQ.hX_nil, KQ.hX_only, KQ.hX_named, KQ.len_tf1, KQ.len_tf2, KQ.len_tf3, KQ.clrU_nx, KQ.clrU_rt, KQ.clrU_bk, KQ.clrU_ct, KQ.vw_excE, KQ.atR_e, KQ.wipeR_n, KQ.wipeR_c, KQ.endX_e, KQ.endU_nx, KQ.endU_rt, KQ.srcV_e, KQ.srcF_e, KQ.cmul_rE, KQ.cmul_lE, KQ.cpow_E, KQ.szT0, KQ.szT1, KQ.szT2, KQ.szT3, KQ.szT4, KQ.szT5, KQ.szT6, KQ.szT7, KQ.szT8, KQ.szT0, KQ.ex_sw1, KQ.ex_sw2, KQ.kT_i, KQ.kT_s, KQ.sgn_inj, KQ.vw_kT, KQ.beq_ft, KQ.beq_tf, KQ.pick_nilE, KQ.pick_0E, KQ.pick_1E, KQ.pick_2E, KQ.str4_i, KQ.str4_s, KQ.str4_b, KQ.str4_n, KQ.list3_l, KQ.list3_t, KQ.list3_c, KQ.list3_d, KQ.seqOf_l, KQ.seqOf_t, KQ.seqOf_c, KQ.seqOf_d, KQ.lenE0, KQ.lenE1, KQ.lenE2, KQ.lenE3, KQ.lenE4, KQ.lenE5, KQ.lenE6, KQ.lenE7, KQ.lenE8, KQ.lenE9, KQ.lenE10, KQ.lenS0, KQ.lenS1, KQ.lenS2, KQ.lenS3, KQ.lenS4, KQ.lenS5, KQ.lenS6, KQ.lenS7, KQ.lenS8, KQ.lenS9, KQ.lenS10, KQ.mapS_nil, KQ.mapS_cons, KQ.nil_l, KQ.eqF_g, KQ.eq_nn, KQ.eq_ns, KQ.eq_sn, KQ.eq_ni, KQ.eq_in, KQ.eq_is, KQ.eq_si, KQ.popAt_1, KQ.ix3_0, KQ.ix3_1, KQ.ix3_2, KQ.q_qCell, KQ.strp, KQ.upr, KQ.q_uCv, KQ.q_rep4, KQ.q_uAsgL, KQ.q_uPar3, KQ.q_uCases0, KQ.q_uCases1, Option.isSome_none, Option.isSome_some, and_assoc, decide_true, decide_false, eq_self, not_true_eq_false, not_false_eq_true, reduceCtorEq, exists_false, or_false, false_or, false_and, and_false, true_and, and_true, true_or, or_true, if_true, if_false, Bool.false_xor, Bool.true_xor, Bool.not_eq_true', decide_eq_false_iff_not, decide_eq_true_eq, Bool.false_eq_true, Bool.not_true, Bool.not_false, ite_true, ite_false, exists_const, List.set_cons_zero, List.set_cons_succ, List.getElem?_cons_zero, List.getElem?_cons_succ, Option.some.injEq, KQ.Tr.int.injEq, KQ.Tr.ref.injEq, KQ.Tr.bl.injEq, KQ.Tr.str.injEq, KQ.Tr.lst.injEq, KQ.Tr.tup.injEq, KQ.Tr.dic.injEq, KQ.Tr.ins.injEq, KQ.Tr.scr.injEq, KQ.Tr.exc.injEq, exists_eq_left', exists_eq_left, exists_eq_right, exists_eq_right', exists_eq, exists_eq', exists_and_left, exists_and_right, List.cons_append, List.nil_append, List.cons.injEq, Int.reduceLT, Int.reduceLE, Int.reduceNeg, Int.reducePow, Int.reduceEq, Int.reduceAdd, Int.reduceSub, Int.reduceMul, KQ.ofS_inj, String.reduceEq, forall_const, false_imp_iff, implies_true, exists_prop, PySem.Value.type.injEq, PySem.Value.ref.injEq, beq_self_eq_true, Bool.or_true, Bool.or_false, Bool.true_or, Bool.false_or, Bool.or_self, forall_eq, forall_eq', and_imp, List.length_map, List.length_append, List.isEmpty_nil, List.isEmpty_cons, KQ.sget_cells, KQ.sget_at, KQ.sget_rest, KQ.sget_seed, KQ.sget_room, KQ.sget_long, KQ.sput_at, KQ.sput_rest, KQ.sput_seed, KQ.sput_room, KQ.sput_long, KQ.sN_at, KQ.sN_rest, KQ.sN_seed, KQ.sN_room, KQ.sN_long, KQ.sk_len, KQ.s5get_cells, KQ.s5get_at, KQ.s5get_rest, KQ.s5get_seed, KQ.s5get_room, KQ.s5put_at, KQ.s5put_rest, KQ.s5put_seed, KQ.s5N_at, KQ.s5N_rest, KQ.s5N_seed, KQ.s5k_len, KQ.srcT5_eq, KQ.srcT_eq, KQ.vw_vT, KQ.vw_mT, KQ.q_plN, KQ.vw_labT, KQ.vw_nM, KQ.vw_payT, KQ.vw_seenT, KQ.vw_runT, KQ.vw_progT, KQ.vw_outR, KQ.vw_psT, KQ.vw_psO, KQ.q_uNewP, KQ.q_uRepC, *])
local macro_rules | `(tactic| walk_at "vl") => `(tactic| try simp only [KQ.q_uMkX, KQ.q_uXvF, KQ.q_uIsV, KQ.vw_xvT, KQ.q_uVar, KQ.q_uC, KQ.q_u2, KQ.q_uOp, KQ.q_uUn, KQ.q_uB, KQ.q_uAnd, KQ.q_uOr, KQ.q_uNot, KQ.q_uAndV, KQ.q_uOrV, KQ.q_uNotV, KQ.q_uIf, KQ.q_uNil, KQ.q_uCons, KQ.q_uTup, KQ.q_uLst, KQ.q_uLstC, KQ.q_uCb, KQ.q_uNext, KQ.q_uSeq, KQ.q_uBreak, KQ.q_uCont, KQ.q_uCut, KQ.q_uDrop, KQ.q_uRet, KQ.q_uRetN, KQ.q_uIfS, KQ.q_uNever, KQ.q_uSet, KQ.q_uAsg, KQ.q_uPar, KQ.q_uAug, KQ.q_uFor, KQ.q_uSeqI, KQ.q_uCall, KQ.q_uYes, KQ.q_uLc, KQ.q_uLcC, KQ.q_uPart, KQ.q_uNoPart, KQ.q_uSl, KQ.q_uIsi2, KQ.q_uRng1, KQ.q_uRng2, KQ.q_uStrI, KQ.q_uEnum, KQ.q_uFld, KQ.q_uSFld, KQ.q_uDPut, KQ.q_uLPut, KQ.q_uFrz, KQ.q_uMt, KQ.q_uMm, KQ.q_uForD, KQ.q_uLcD, KQ.q_uMeth, KQ.q_uDNew, KQ.q_uFldAug, KQ.q_uDisp, KQ.q_uIsi1, KQ.q_uOBin, KQ.q_uOIx, KQ.q_uOIn, KQ.q_uOLen, KQ.q_uTry, KQ.q_uXf, KQ.q_uIsE, KQ.q_uRaise, KQ.q_uCallK, KQ.q_uLcX, KQ.q_uNewK, KQ.q_uOEq, KQ.q_uListC, KQ.q_uRev, KQ.q_uEnum2, KQ.q_uZip, KQ.q_uAddC, KQ.q_uFs, KQ.q_uOBin2, KQ.q_uOInv, KQ.q_uCallO, KQ.q_uSrt, KQ.q_uSet0, KQ.q_uSAdd, KQ.q_uSIn, KQ.q_uChain, KQ.q_uKGet, KQ.q_uTryF, KQ.q_uMethZ, KQ.q_uTryZ, KQ.q_uCallC, KQ.q_uNewKL, KQ.q_uMatch, KQ.q_uKIx, KQ.q_uRep2, KQ.vw_refE, KQ.vw_non, KQ.vw_bl, KQ.vw_int, KQ.vw_str, KQ.vw_ty, KQ.vw_lstE, KQ.vw_tupE, KQ.vw_scrE, KQ.vw_dicE, KQ.vw_insE, KQ.put_sameE, KQ.put_putE, KQ.getD_some, KQ.pat_nm, KQ.pat_tp, KQ.pats_nil, KQ.pats_cons, KQ.bind_s, KQ.loop_nil, KQ.lcl_nil, KQ.lcl_cons, KQ.prs_nil, KQ.prs_cons, KQ.add_ii, KQ.add_ss, KQ.add_ll, KQ.add_tt, KQ.sortr_l, KQ.les_ss, KQ.int2_ii, KQ.mul_ii, KQ.mul_li, KQ.mul2_ii, KQ.mul2_li, KQ.mul2_si, KQ.js_nil, KQ.js_cons, KQ.fmt_s, KQ.fmt_n, KQ.fmt_0s, KQ.fmt_0i, KQ.neg_i, KQ.is_g, KQ.isk_n, KQ.isk_b, KQ.is_nn, KQ.is_bn, KQ.is_in, KQ.is_sn, KQ.is_rn, KQ.is_ln, KQ.is_tn, KQ.is_dn, KQ.is_on, KQ.is_nb, KQ.is_bb, KQ.is_ib, KQ.is_sb, KQ.is_rb, KQ.is_lb, KQ.is_tb, KQ.is_ob, KQ.eq_ii, KQ.eq_ss, KQ.eq_bb, KQ.ix_s, KQ.ix_l, KQ.ix_t, KQ.ix_c, KQ.ix_d, KQ.key_i, KQ.key_s, KQ.at_0, KQ.at_1, KQ.at_2, KQ.in_s, KQ.in_l, KQ.in_t, KQ.in_d, KQ.fl_i, KQ.fl_s, KQ.fl_b, KQ.fl_n, KQ.len_s, KQ.len_l, KQ.len_c, KQ.len_t, KQ.len_d, KQ.abs_i, KQ.int_i, KQ.int_b, KQ.int_s, KQ.str_i, KQ.str_s, KQ.mm_ii, KQ.list_l, KQ.list_t, KQ.list_c, KQ.tuple_l, KQ.tuple_t, KQ.sl_s, KQ.sl_l, KQ.sl_t, KQ.sl_c, KQ.asl_l, KQ.asl_c, KQ.asl_t, KQ.ok_l, KQ.ok_s, KQ.app_1, KQ.ext_1, KQ.ins_1, KQ.pop_1, KQ.join_t, KQ.join_l, KQ.isdig, KQ.rmp, KQ.all_l, KQ.isi_2, KQ.ty_n, KQ.ty_b, KQ.ty_i, KQ.ty_s, KQ.ty_l, KQ.ty_t, KQ.ty_o, KQ.cls_t, KQ.cls_c, KQ.k_ni, KQ.k_ns, KQ.k_nb, KQ.k_nl, KQ.k_nt, KQ.k_bi, KQ.k_bs, KQ.k_bb, KQ.k_bl, KQ.k_bt, KQ.k_ii, KQ.k_is, KQ.k_ib, KQ.k_il, KQ.k_it, KQ.k_si, KQ.k_ss, KQ.k_sb, KQ.k_sl, KQ.k_st, KQ.k_li, KQ.k_ls, KQ.k_lb, KQ.k_ll, KQ.k_lt, KQ.k_ti, KQ.k_ts, KQ.k_tb, KQ.k_tl, KQ.k_tt, KQ.ofS_inj, KQ.fget_c, KQ.fget_n, KQ.fputN_n, KQ.fputN_c, KQ.fputX_n, KQ.fputX_c, KQ.map_vw0, KQ.map_vw, KQ.xFrmE, KQ.hX_nil, KQ.hX_only, KQ.hX_named, KQ.len_tf1, KQ.len_tf2, KQ.len_tf3, KQ.clrU_nx, KQ.clrU_rt, KQ.clrU_bk, KQ.clrU_ct, KQ.vw_excE, KQ.atR_e, KQ.wipeR_n, KQ.wipeR_c, KQ.endX_e, KQ.endU_nx, KQ.endU_rt, KQ.srcV_e, KQ.srcF_e, KQ.cmul_rE, KQ.cmul_lE, KQ.cpow_E, KQ.szT0, KQ.szT1, KQ.szT2, KQ.szT3, KQ.szT4, KQ.szT5, KQ.szT6, KQ.szT7, KQ.szT8, KQ.szT0, KQ.ex_sw1, KQ.ex_sw2, KQ.kT_i, KQ.kT_s, KQ.sgn_inj, KQ.vw_kT, KQ.beq_ft, KQ.beq_tf, KQ.pick_nilE, KQ.pick_0E, KQ.pick_1E, KQ.pick_2E, KQ.str4_i, KQ.str4_s, KQ.str4_b, KQ.str4_n, KQ.list3_l, KQ.list3_t, KQ.list3_c, KQ.list3_d, KQ.seqOf_l, KQ.seqOf_t, KQ.seqOf_c, KQ.seqOf_d, KQ.lenE0, KQ.lenE1, KQ.lenE2, KQ.lenE3, KQ.lenE4, KQ.lenE5, KQ.lenE6, KQ.lenE7, KQ.lenE8, KQ.lenE9, KQ.lenE10, KQ.lenS0, KQ.lenS1, KQ.lenS2, KQ.lenS3, KQ.lenS4, KQ.lenS5, KQ.lenS6, KQ.lenS7, KQ.lenS8, KQ.lenS9, KQ.lenS10, KQ.mapS_nil, KQ.mapS_cons, KQ.nil_l, KQ.eqF_g, KQ.eq_nn, KQ.eq_ns, KQ.eq_sn, KQ.eq_ni, KQ.eq_in, KQ.eq_is, KQ.eq_si, KQ.popAt_1, KQ.ix3_0, KQ.ix3_1, KQ.ix3_2, KQ.q_qCell, KQ.strp, KQ.upr, KQ.q_uCv, KQ.q_rep4, KQ.q_uAsgL, KQ.q_uPar3, KQ.q_uCases0, KQ.q_uCases1, Option.isSome_none, Option.isSome_some, and_assoc, decide_true, decide_false, eq_self, not_true_eq_false, not_false_eq_true, reduceCtorEq, exists_false, or_false, false_or, false_and, and_false, true_and, and_true, true_or, or_true, if_true, if_false, Bool.false_xor, Bool.true_xor, Bool.not_eq_true', decide_eq_false_iff_not, decide_eq_true_eq, Bool.false_eq_true, Bool.not_true, Bool.not_false, ite_true, ite_false, exists_const, List.set_cons_zero, List.set_cons_succ, List.getElem?_cons_zero, List.getElem?_cons_succ, Option.some.injEq, KQ.Tr.int.injEq, KQ.Tr.ref.injEq, KQ.Tr.bl.injEq, KQ.Tr.str.injEq, KQ.Tr.lst.injEq, KQ.Tr.tup.injEq, KQ.Tr.dic.injEq, KQ.Tr.ins.injEq, KQ.Tr.scr.injEq, KQ.Tr.exc.injEq, exists_eq_left', exists_eq_left, exists_eq_right, exists_eq_right', exists_eq, exists_eq', exists_and_left, exists_and_right, List.cons_append, List.nil_append, List.cons.injEq, Int.reduceLT, Int.reduceLE, Int.reduceNeg, Int.reducePow, Int.reduceEq, Int.reduceAdd, Int.reduceSub, Int.reduceMul, KQ.ofS_inj, String.reduceEq, forall_const, false_imp_iff, implies_true, exists_prop, PySem.Value.type.injEq, PySem.Value.ref.injEq, beq_self_eq_true, Bool.or_true, Bool.or_false, Bool.true_or, Bool.false_or, Bool.or_self, forall_eq, forall_eq', and_imp, List.length_map, List.length_append, List.isEmpty_nil, List.isEmpty_cons, KQ.sget_cells, KQ.sget_at, KQ.sget_rest, KQ.sget_seed, KQ.sget_room, KQ.sget_long, KQ.sput_at, KQ.sput_rest, KQ.sput_seed, KQ.sput_room, KQ.sput_long, KQ.sN_at, KQ.sN_rest, KQ.sN_seed, KQ.sN_room, KQ.sN_long, KQ.sk_len, KQ.s5get_cells, KQ.s5get_at, KQ.s5get_rest, KQ.s5get_seed, KQ.s5get_room, KQ.s5put_at, KQ.s5put_rest, KQ.s5put_seed, KQ.s5N_at, KQ.s5N_rest, KQ.s5N_seed, KQ.s5k_len, KQ.srcT5_eq, KQ.srcT_eq, KQ.vw_vT, KQ.vw_mT, KQ.q_plN, KQ.vw_labT, KQ.vw_nM, KQ.vw_payT, KQ.vw_seenT, KQ.vw_runT, KQ.vw_progT, KQ.vw_outR, KQ.vw_psT, KQ.vw_psO, KQ.q_uNewP, KQ.q_uRepC, KQ.fl_cons, KQ.fl_nil, KQ.iv_cons, KQ.iv_nil, Option.map_some, Bool.or_eq_true, Bool.or_false, Bool.false_or, Bool.true_or, exists_eq_left, exists_eq_left', Bool.or_self, Bool.or_true, *])
local macro_rules | `(tactic| walk_at "mono") => `(tactic| (intro xs S Q Q' X X' hQ hX; (repeat' first | exact fun h => h | exact hQ _ _ | exact hX _ _ _ _ | refine Exists.imp fun _ => ?_ | refine And.imp ?_ ?_ | refine Or.imp ?_ ?_ | refine forall_imp fun _ => ?_)))

section
variable {P : Program} {w : World} {K : PySem.W.Frag} {mg : Str → Option Value} {base : Heap} {A : Adr}
/-! ### BadKey.__init__ -/
abbrev N_BadKey___init__ : List Str := ["self", "key"]
theorem sc_BadKey___init__ : FnScope N_BadKey___init__ ["self", "key"] (defScope s_BadKey___init__) := ⟨rfl, rfl, rfl, by decide +kernel, rfl, by decide +kernel, by decide +kernel⟩
theorem ok_BadKey___init__ (T : Top K mg A) {k : Nat} : ExcT P w K mg base (k + 1) "BadKey" A.BadKey ["key"] :=
  DefM.excT T.m_BadKey___init__ T.ox_BadKey T.c_BadKey.mg (List.forall_mem_cons.2 ⟨T.nf_BadKey_key, fun _ h => nomatch h⟩) sc_BadKey___init__ (fun _ _ _ _ _ _ us hl => match us, hl with | [_, _], _ => rfl) rfl (by decide) (by decide) (by decide) (fun _ _ _ _ _ h => start_at h) (fun f cdv A outer s H E => (pss_one (ps_ost (pv 0) (pv 1))))

/-! ### BadOption.__init__ -/
abbrev N_BadOption___init__ : List Str := ["self", "name", "value"]
theorem sc_BadOption___init__ : FnScope N_BadOption___init__ ["self", "name", "value"] (defScope s_BadOption___init__) := ⟨rfl, rfl, rfl, by decide +kernel, rfl, by decide +kernel, by decide +kernel⟩
theorem ok_BadOption___init__ (T : Top K mg A) {k : Nat} : ExcT P w K mg base (k + 1) "BadOption" A.BadOption ["name", "value"] :=
  DefM.excT T.m_BadOption___init__ T.ox_BadOption T.c_BadOption.mg (List.forall_mem_cons.2 ⟨T.nf_BadOption_name, List.forall_mem_cons.2 ⟨T.nf_BadOption_value, fun _ h => nomatch h⟩⟩) sc_BadOption___init__ (fun _ _ _ _ _ _ us hl => match us, hl with | [_, _, _], _ => rfl) rfl (by decide) (by decide) (by decide) (fun _ _ _ _ _ h => start_at h) (fun f cdv A outer s H E => (pss_cons (ps_ost (pv 0) (pv 1)) (pss_one (ps_ost (pv 0) (pv 2)))))

/-! ### DoubleKey.__init__ -/
abbrev N_DoubleKey___init__ : List Str := ["self", "key"]
theorem sc_DoubleKey___init__ : FnScope N_DoubleKey___init__ ["self", "key"] (defScope s_DoubleKey___init__) := ⟨rfl, rfl, rfl, by decide +kernel, rfl, by decide +kernel, by decide +kernel⟩
theorem ok_DoubleKey___init__ (T : Top K mg A) {k : Nat} : ExcT P w K mg base (k + 1) "DoubleKey" A.DoubleKey ["key"] :=
  DefM.excT T.m_DoubleKey___init__ T.ox_DoubleKey T.c_DoubleKey.mg (List.forall_mem_cons.2 ⟨T.nf_DoubleKey_key, fun _ h => nomatch h⟩) sc_DoubleKey___init__ (fun _ _ _ _ _ _ us hl => match us, hl with | [_, _], _ => rfl) rfl (by decide) (by decide) (by decide) (fun _ _ _ _ _ h => start_at h) (fun f cdv A outer s H E => (pss_one (ps_ost (pv 0) (pv 1))))

/-! ### NoKey.__init__ -/
abbrev N_NoKey___init__ : List Str := ["self", "key"]
theorem sc_NoKey___init__ : FnScope N_NoKey___init__ ["self", "key"] (defScope s_NoKey___init__) := ⟨rfl, rfl, rfl, by decide +kernel, rfl, by decide +kernel, by decide +kernel⟩
theorem ok_NoKey___init__ (T : Top K mg A) {k : Nat} : ExcT P w K mg base (k + 1) "NoKey" A.NoKey ["key"] :=
  DefM.excT T.m_NoKey___init__ T.ox_NoKey T.c_NoKey.mg (List.forall_mem_cons.2 ⟨T.nf_NoKey_key, fun _ h => nomatch h⟩) sc_NoKey___init__ (fun _ _ _ _ _ _ us hl => match us, hl with | [_, _], _ => rfl) rfl (by decide) (by decide) (by decide) (fun _ _ _ _ _ h => start_at h) (fun f cdv A outer s H E => (pss_one (ps_ost (pv 0) (pv 1))))

/-! ### NotText.__init__ -/
abbrev N_NotText___init__ : List Str := ["self", "position"]
theorem sc_NotText___init__ : FnScope N_NotText___init__ ["self", "position"] (defScope s_NotText___init__) := ⟨rfl, rfl, rfl, by decide +kernel, rfl, by decide +kernel, by decide +kernel⟩
theorem ok_NotText___init__ (T : Top K mg A) {k : Nat} : ExcT P w K mg base (k + 1) "NotText" A.NotText ["position"] :=
  DefM.excT T.m_NotText___init__ T.ox_NotText T.c_NotText.mg (List.forall_mem_cons.2 ⟨T.nf_NotText_position, fun _ h => nomatch h⟩) sc_NotText___init__ (fun _ _ _ _ _ _ us hl => match us, hl with | [_, _], _ => rfl) rfl (by decide) (by decide) (by decide) (fun _ _ _ _ _ h => start_at h) (fun f cdv A outer s H E => (pss_one (ps_ost (pv 0) (pv 1))))

/-! ### Refused.__init__ -/
abbrev N_Refused___init__ : List Str := ["self", "side", "reason", "path"]
theorem sc_Refused___init__ : FnScope N_Refused___init__ ["self", "side", "reason", "path"] (defScope s_Refused___init__) := ⟨rfl, rfl, rfl, by decide +kernel, rfl, by decide +kernel, by decide +kernel⟩
theorem ok_Refused___init__ (T : Top K mg A) {k : Nat} : ExcT P w K mg base (k + 1) "Refused" A.Refused ["side", "reason", "path"] :=
  DefM.excT T.m_Refused___init__ T.ox_Refused T.c_Refused.mg (List.forall_mem_cons.2 ⟨T.nf_Refused_side, List.forall_mem_cons.2 ⟨T.nf_Refused_reason, List.forall_mem_cons.2 ⟨T.nf_Refused_path, fun _ h => nomatch h⟩⟩⟩) sc_Refused___init__ (fun _ _ _ _ _ _ us hl => match us, hl with | [_, _, _, _], _ => rfl) rfl (by decide) (by decide) (by decide) (fun _ _ _ _ _ h => start_at h) (fun f cdv A outer s H E => (pss_cons (ps_ost (pv 0) (pv 1)) (pss_cons (ps_ost (pv 0) (pv 2)) (pss_one (ps_ost (pv 0) (pv 3))))))

/-! ### TooDeep.__init__ -/
abbrev N_TooDeep___init__ : List Str := ["self", "position"]
theorem sc_TooDeep___init__ : FnScope N_TooDeep___init__ ["self", "position"] (defScope s_TooDeep___init__) := ⟨rfl, rfl, rfl, by decide +kernel, rfl, by decide +kernel, by decide +kernel⟩
theorem ok_TooDeep___init__ (T : Top K mg A) {k : Nat} : ExcT P w K mg base (k + 1) "TooDeep" A.TooDeep ["position"] :=
  DefM.excT T.m_TooDeep___init__ T.ox_TooDeep T.c_TooDeep.mg (List.forall_mem_cons.2 ⟨T.nf_TooDeep_position, fun _ h => nomatch h⟩) sc_TooDeep___init__ (fun _ _ _ _ _ _ us hl => match us, hl with | [_, _], _ => rfl) rfl (by decide) (by decide) (by decide) (fun _ _ _ _ _ h => start_at h) (fun f cdv A outer s H E => (pss_one (ps_ost (pv 0) (pv 1))))

/-! ### Unreadable.__init__ -/
abbrev N_Unreadable___init__ : List Str := ["self", "reason", "path"]
theorem sc_Unreadable___init__ : FnScope N_Unreadable___init__ ["self", "reason", "path"] (defScope s_Unreadable___init__) := ⟨rfl, rfl, rfl, by decide +kernel, rfl, by decide +kernel, by decide +kernel⟩
theorem ok_Unreadable___init__ (T : Top K mg A) {k : Nat} : ExcT P w K mg base (k + 1) "Unreadable" A.Unreadable ["reason", "path"] :=
  DefM.excT T.m_Unreadable___init__ T.ox_Unreadable T.c_Unreadable.mg (List.forall_mem_cons.2 ⟨T.nf_Unreadable_reason, List.forall_mem_cons.2 ⟨T.nf_Unreadable_path, fun _ h => nomatch h⟩⟩) sc_Unreadable___init__ (fun _ _ _ _ _ _ us hl => match us, hl with | [_, _, _], _ => rfl) rfl (by decide) (by decide) (by decide) (fun _ _ _ _ _ h => start_at h) (fun f cdv A outer s H E => (pss_cons (ps_ost (pv 0) (pv 1)) (pss_one (ps_ost (pv 0) (pv 2)))))

/-! ### Unwritable.__init__ -/
abbrev N_Unwritable___init__ : List Str := ["self", "reason", "path"]
theorem sc_Unwritable___init__ : FnScope N_Unwritable___init__ ["self", "reason", "path"] (defScope s_Unwritable___init__) := ⟨rfl, rfl, rfl, by decide +kernel, rfl, by decide +kernel, by decide +kernel⟩
theorem ok_Unwritable___init__ (T : Top K mg A) {k : Nat} : ExcT P w K mg base (k + 1) "Unwritable" A.Unwritable ["reason", "path"] :=
  DefM.excT T.m_Unwritable___init__ T.ox_Unwritable T.c_Unwritable.mg (List.forall_mem_cons.2 ⟨T.nf_Unwritable_reason, List.forall_mem_cons.2 ⟨T.nf_Unwritable_path, fun _ h => nomatch h⟩⟩) sc_Unwritable___init__ (fun _ _ _ _ _ _ us hl => match us, hl with | [_, _, _], _ => rfl) rfl (by decide) (by decide) (by decide) (fun _ _ _ _ _ h => start_at h) (fun f cdv A outer s H E => (pss_cons (ps_ost (pv 0) (pv 1)) (pss_one (ps_ost (pv 0) (pv 2)))))

/-! ### _law_raise_early -/
abbrev N__law_raise_early : List Str := ["_law_which", "_law_a", "_law_b", "_law_c"]
theorem sc__law_raise_early : FnScope N__law_raise_early ["_law_which", "_law_a", "_law_b", "_law_c"] (defScope s__law_raise_early) := ⟨rfl, rfl, rfl, by decide +kernel, rfl, by decide +kernel, by decide +kernel⟩
def fld98 : List (List Str) := [["key"], ["key"], ["key"], ["position"], ["position"], ["name", "value"], ["reason", "path"], ["reason", "path"], ["side", "reason", "path"], ["value"], ["name"], ["label"], ["index"], ["wanted", "given"], ["what"], ["name"]]
def sp_early98 (L : List Addr) : TSp := fun xs S Q X => ∃ (i : Nat) (C : Addr) (fs : List Str) (x y z : Tr), xs = [.int i, x, y, z] ∧ i < 9 ∧ L[i]? = some C ∧ fld98[i]? = some fs ∧ X (.ref C) fs ([x, y, z].take fs.length) S
theorem ok__law_raise_early (T : Top K mg A) {k : Nat} (X_BadKey : ExcT P w K mg base k "BadKey" A.BadKey ["key"]) (X_BadOption : ExcT P w K mg base k "BadOption" A.BadOption ["name", "value"]) (X_DoubleKey : ExcT P w K mg base k "DoubleKey" A.DoubleKey ["key"]) (X_NoKey : ExcT P w K mg base k "NoKey" A.NoKey ["key"]) (X_NotText : ExcT P w K mg base k "NotText" A.NotText ["position"]) (X_Refused : ExcT P w K mg base k "Refused" A.Refused ["side", "reason", "path"]) (X_TooDeep : ExcT P w K mg base k "TooDeep" A.TooDeep ["position"]) (X_Unreadable : ExcT P w K mg base k "Unreadable" A.Unreadable ["reason", "path"]) (X_Unwritable : ExcT P w K mg base k "Unwritable" A.Unwritable ["reason", "path"])  : CalleeT P w K mg base (k + 1 + 1) "_law_raise_early" ["_law_which", "_law_a", "_law_b", "_law_c"] (sp_early98 [A.BadKey, A.DoubleKey, A.NoKey, A.NotText, A.TooDeep, A.BadOption, A.Unwritable, A.Unreadable, A.Refused, A.BadCondition, A.BadLabel, A.NoLabel, A.BadStep, A.WrongNumber, A.TooMuch, A.NoGuard]) := by
  have nd := sc__law_raise_early.nd
  refine Def.okT T.d__law_raise_early sc__law_raise_early (fun _ _ _ _ _ _ us hl => match us, hl with | [_, _, _, _], _ => rfl) (fun xs S Q X h => ?_) ?_ (fun f cdv AA outer s H E hr tk po => have hu := hu_of hr; (ss_cons (s_if (t_cmp (eq_op hr) o_eq (e_var 0) e_int (nomark _)) (ss_one (s_raise X_BadKey rfl (hr.mono (by omega)) (by rfl) tk (a_cons (e_var 1) a_nil))) ss_nil)
      (ss_cons (s_if (t_cmp (eq_op hr) o_eq (e_var 0) e_int (nomark _)) (ss_one (s_raise X_DoubleKey rfl (hr.mono (by omega)) (by rfl) tk (a_cons (e_var 1) a_nil))) ss_nil)
      (ss_cons (s_if (t_cmp (eq_op hr) o_eq (e_var 0) e_int (nomark _)) (ss_one (s_raise X_NoKey rfl (hr.mono (by omega)) (by rfl) tk (a_cons (e_var 1) a_nil))) ss_nil)
      (ss_cons (s_if (t_cmp (eq_op hr) o_eq (e_var 0) e_int (nomark _)) (ss_one (s_raise X_NotText rfl (hr.mono (by omega)) (by rfl) tk (a_cons (e_var 1) a_nil))) ss_nil)
      (ss_cons (s_if (t_cmp (eq_op hr) o_eq (e_var 0) e_int (nomark _)) (ss_one (s_raise X_TooDeep rfl (hr.mono (by omega)) (by rfl) tk (a_cons (e_var 1) a_nil))) ss_nil)
      (ss_cons (s_if (t_cmp (eq_op hr) o_eq (e_var 0) e_int (nomark _)) (ss_one (s_raise X_BadOption rfl (hr.mono (by omega)) (by rfl) tk (a_cons (e_var 1) (a_cons (e_var 2) a_nil)))) ss_nil)
      (ss_cons (s_if (t_cmp (eq_op hr) o_eq (e_var 0) e_int (nomark _)) (ss_one (s_raise X_Unwritable rfl (hr.mono (by omega)) (by rfl) tk (a_cons (e_var 1) (a_cons (e_var 2) a_nil)))) ss_nil)
      (ss_cons (s_if (t_cmp (eq_op hr) o_eq (e_var 0) e_int (nomark _)) (ss_one (s_raise X_Unreadable rfl (hr.mono (by omega)) (by rfl) tk (a_cons (e_var 1) (a_cons (e_var 2) a_nil)))) ss_nil)
      (ss_one (s_raise X_Refused rfl (hr.mono (by omega)) (by rfl) tk (a_cons (e_var 1) (a_cons (e_var 2) (a_cons (e_var 3) a_nil)))))))))))))) ?_
  · obtain ⟨i, C, fs, x, y, z, rfl, hi, hL, hf, hq⟩ := h
    rfl
  · walk_at "mono"
  · intro xs S Q X cQ cX h
    obtain ⟨i, C, fs, x, y, z, rfl, hi, hL, hf, hq⟩ := h
    simp only [KQ.startT, List.map_cons, List.map_nil, List.length_cons, List.length_nil, Nat.reduceAdd, Nat.reduceSub, List.replicate_succ, List.replicate_zero, List.cons_append, List.nil_append]
    match i, hi with
    | 0, _ =>
      cases hL; cases hf
      replace hq := Hide.mk hq
      rw [show ((0 : Nat) : Int) = 0 from rfl]
      walk_at "vn"
      all_goals exact hq.go
    | 1, _ =>
      cases hL; cases hf
      replace hq := Hide.mk hq
      rw [show ((1 : Nat) : Int) = 1 from rfl]
      walk_at "vn"
      all_goals exact hq.go
    | 2, _ =>
      cases hL; cases hf
      replace hq := Hide.mk hq
      rw [show ((2 : Nat) : Int) = 2 from rfl]
      walk_at "vn"
      all_goals exact hq.go
    | 3, _ =>
      cases hL; cases hf
      replace hq := Hide.mk hq
      rw [show ((3 : Nat) : Int) = 3 from rfl]
      walk_at "vn"
      all_goals exact hq.go
    | 4, _ =>
      cases hL; cases hf
      replace hq := Hide.mk hq
      rw [show ((4 : Nat) : Int) = 4 from rfl]
      walk_at "vn"
      all_goals exact hq.go
    | 5, _ =>
      cases hL; cases hf
      replace hq := Hide.mk hq
      rw [show ((5 : Nat) : Int) = 5 from rfl]
      walk_at "vn"
      all_goals exact hq.go
    | 6, _ =>
      cases hL; cases hf
      replace hq := Hide.mk hq
      rw [show ((6 : Nat) : Int) = 6 from rfl]
      walk_at "vn"
      all_goals exact hq.go
    | 7, _ =>
      cases hL; cases hf
      replace hq := Hide.mk hq
      rw [show ((7 : Nat) : Int) = 7 from rfl]
      walk_at "vn"
      all_goals exact hq.go
    | 8, _ =>
      cases hL; cases hf
      replace hq := Hide.mk hq
      rw [show ((8 : Nat) : Int) = 8 from rfl]
      walk_at "vn"
      all_goals exact hq.go

/-! ### BadCondition.__init__ -/
abbrev N_BadCondition___init__ : List Str := ["self", "value"]
theorem sc_BadCondition___init__ : FnScope N_BadCondition___init__ ["self", "value"] (defScope s_BadCondition___init__) := ⟨rfl, rfl, rfl, by decide +kernel, rfl, by decide +kernel, by decide +kernel⟩
theorem ok_BadCondition___init__ (T : Top K mg A) {k : Nat} : ExcT P w K mg base (k + 1) "BadCondition" A.BadCondition ["value"] :=
  DefM.excT T.m_BadCondition___init__ T.ox_BadCondition T.c_BadCondition.mg (List.forall_mem_cons.2 ⟨T.nf_BadCondition_value, fun _ h => nomatch h⟩) sc_BadCondition___init__ (fun _ _ _ _ _ _ us hl => match us, hl with | [_, _], _ => rfl) rfl (by decide) (by decide) (by decide) (fun _ _ _ _ _ h => start_at h) (fun f cdv A outer s H E => (pss_one (ps_ost (pv 0) (pv 1))))

/-! ### BadLabel.__init__ -/
abbrev N_BadLabel___init__ : List Str := ["self", "name"]
theorem sc_BadLabel___init__ : FnScope N_BadLabel___init__ ["self", "name"] (defScope s_BadLabel___init__) := ⟨rfl, rfl, rfl, by decide +kernel, rfl, by decide +kernel, by decide +kernel⟩
theorem ok_BadLabel___init__ (T : Top K mg A) {k : Nat} : ExcT P w K mg base (k + 1) "BadLabel" A.BadLabel ["name"] :=
  DefM.excT T.m_BadLabel___init__ T.ox_BadLabel T.c_BadLabel.mg (List.forall_mem_cons.2 ⟨T.nf_BadLabel_name, fun _ h => nomatch h⟩) sc_BadLabel___init__ (fun _ _ _ _ _ _ us hl => match us, hl with | [_, _], _ => rfl) rfl (by decide) (by decide) (by decide) (fun _ _ _ _ _ h => start_at h) (fun f cdv A outer s H E => (pss_one (ps_ost (pv 0) (pv 1))))

/-! ### BadStep.__init__ -/
abbrev N_BadStep___init__ : List Str := ["self", "index"]
theorem sc_BadStep___init__ : FnScope N_BadStep___init__ ["self", "index"] (defScope s_BadStep___init__) := ⟨rfl, rfl, rfl, by decide +kernel, rfl, by decide +kernel, by decide +kernel⟩
theorem ok_BadStep___init__ (T : Top K mg A) {k : Nat} : ExcT P w K mg base (k + 1) "BadStep" A.BadStep ["index"] :=
  DefM.excT T.m_BadStep___init__ T.ox_BadStep T.c_BadStep.mg (List.forall_mem_cons.2 ⟨T.nf_BadStep_index, fun _ h => nomatch h⟩) sc_BadStep___init__ (fun _ _ _ _ _ _ us hl => match us, hl with | [_, _], _ => rfl) rfl (by decide) (by decide) (by decide) (fun _ _ _ _ _ h => start_at h) (fun f cdv A outer s H E => (pss_one (ps_ost (pv 0) (pv 1))))

/-! ### NoGuard.__init__ -/
abbrev N_NoGuard___init__ : List Str := ["self", "name"]
theorem sc_NoGuard___init__ : FnScope N_NoGuard___init__ ["self", "name"] (defScope s_NoGuard___init__) := ⟨rfl, rfl, rfl, by decide +kernel, rfl, by decide +kernel, by decide +kernel⟩
theorem ok_NoGuard___init__ (T : Top K mg A) {k : Nat} : ExcT P w K mg base (k + 1) "NoGuard" A.NoGuard ["name"] :=
  DefM.excT T.m_NoGuard___init__ T.ox_NoGuard T.c_NoGuard.mg (List.forall_mem_cons.2 ⟨T.nf_NoGuard_name, fun _ h => nomatch h⟩) sc_NoGuard___init__ (fun _ _ _ _ _ _ us hl => match us, hl with | [_, _], _ => rfl) rfl (by decide) (by decide) (by decide) (fun _ _ _ _ _ h => start_at h) (fun f cdv A outer s H E => (pss_one (ps_ost (pv 0) (pv 1))))

/-! ### NoLabel.__init__ -/
abbrev N_NoLabel___init__ : List Str := ["self", "label"]
theorem sc_NoLabel___init__ : FnScope N_NoLabel___init__ ["self", "label"] (defScope s_NoLabel___init__) := ⟨rfl, rfl, rfl, by decide +kernel, rfl, by decide +kernel, by decide +kernel⟩
theorem ok_NoLabel___init__ (T : Top K mg A) {k : Nat} : ExcT P w K mg base (k + 1) "NoLabel" A.NoLabel ["label"] :=
  DefM.excT T.m_NoLabel___init__ T.ox_NoLabel T.c_NoLabel.mg (List.forall_mem_cons.2 ⟨T.nf_NoLabel_label, fun _ h => nomatch h⟩) sc_NoLabel___init__ (fun _ _ _ _ _ _ us hl => match us, hl with | [_, _], _ => rfl) rfl (by decide) (by decide) (by decide) (fun _ _ _ _ _ h => start_at h) (fun f cdv A outer s H E => (pss_one (ps_ost (pv 0) (pv 1))))

/-! ### TooMuch.__init__ -/
abbrev N_TooMuch___init__ : List Str := ["self", "what"]
theorem sc_TooMuch___init__ : FnScope N_TooMuch___init__ ["self", "what"] (defScope s_TooMuch___init__) := ⟨rfl, rfl, rfl, by decide +kernel, rfl, by decide +kernel, by decide +kernel⟩
theorem ok_TooMuch___init__ (T : Top K mg A) {k : Nat} : ExcT P w K mg base (k + 1) "TooMuch" A.TooMuch ["what"] :=
  DefM.excT T.m_TooMuch___init__ T.ox_TooMuch T.c_TooMuch.mg (List.forall_mem_cons.2 ⟨T.nf_TooMuch_what, fun _ h => nomatch h⟩) sc_TooMuch___init__ (fun _ _ _ _ _ _ us hl => match us, hl with | [_, _], _ => rfl) rfl (by decide) (by decide) (by decide) (fun _ _ _ _ _ h => start_at h) (fun f cdv A outer s H E => (pss_one (ps_ost (pv 0) (pv 1))))

/-! ### WrongNumber.__init__ -/
abbrev N_WrongNumber___init__ : List Str := ["self", "wanted", "given"]
theorem sc_WrongNumber___init__ : FnScope N_WrongNumber___init__ ["self", "wanted", "given"] (defScope s_WrongNumber___init__) := ⟨rfl, rfl, rfl, by decide +kernel, rfl, by decide +kernel, by decide +kernel⟩
theorem ok_WrongNumber___init__ (T : Top K mg A) {k : Nat} : ExcT P w K mg base (k + 1) "WrongNumber" A.WrongNumber ["wanted", "given"] :=
  DefM.excT T.m_WrongNumber___init__ T.ox_WrongNumber T.c_WrongNumber.mg (List.forall_mem_cons.2 ⟨T.nf_WrongNumber_wanted, List.forall_mem_cons.2 ⟨T.nf_WrongNumber_given, fun _ h => nomatch h⟩⟩) sc_WrongNumber___init__ (fun _ _ _ _ _ _ us hl => match us, hl with | [_, _, _], _ => rfl) rfl (by decide) (by decide) (by decide) (fun _ _ _ _ _ h => start_at h) (fun f cdv A outer s H E => (pss_cons (ps_ost (pv 0) (pv 1)) (pss_one (ps_ost (pv 0) (pv 2)))))

/-! ### _law_raise_late -/
abbrev N__law_raise_late : List Str := ["_law_which", "_law_a", "_law_b"]
theorem sc__law_raise_late : FnScope N__law_raise_late ["_law_which", "_law_a", "_law_b"] (defScope s__law_raise_late) := ⟨rfl, rfl, rfl, by decide +kernel, rfl, by decide +kernel, by decide +kernel⟩
def sp_late98 (L : List Addr) : TSp := fun xs S Q X => ∃ (i : Nat) (C : Addr) (fs : List Str) (x y : Tr), xs = [.int i, x, y] ∧ 9 ≤ i ∧ i < 16 ∧ L[i]? = some C ∧ fld98[i]? = some fs ∧ X (.ref C) fs ([x, y].take fs.length) S
theorem ok__law_raise_late (T : Top K mg A) {k : Nat} (X_BadCondition : ExcT P w K mg base k "BadCondition" A.BadCondition ["value"]) (X_BadLabel : ExcT P w K mg base k "BadLabel" A.BadLabel ["name"]) (X_BadStep : ExcT P w K mg base k "BadStep" A.BadStep ["index"]) (X_NoGuard : ExcT P w K mg base k "NoGuard" A.NoGuard ["name"]) (X_NoLabel : ExcT P w K mg base k "NoLabel" A.NoLabel ["label"]) (X_TooMuch : ExcT P w K mg base k "TooMuch" A.TooMuch ["what"]) (X_WrongNumber : ExcT P w K mg base k "WrongNumber" A.WrongNumber ["wanted", "given"])  : CalleeT P w K mg base (k + 1 + 1) "_law_raise_late" ["_law_which", "_law_a", "_law_b"] (sp_late98 [A.BadKey, A.DoubleKey, A.NoKey, A.NotText, A.TooDeep, A.BadOption, A.Unwritable, A.Unreadable, A.Refused, A.BadCondition, A.BadLabel, A.NoLabel, A.BadStep, A.WrongNumber, A.TooMuch, A.NoGuard]) := by
  have nd := sc__law_raise_late.nd
  refine Def.okT T.d__law_raise_late sc__law_raise_late (fun _ _ _ _ _ _ us hl => match us, hl with | [_, _, _], _ => rfl) (fun xs S Q X h => ?_) ?_ (fun f cdv AA outer s H E hr tk po => have hu := hu_of hr; (ss_cons (s_if (t_cmp (eq_op hr) o_eq (e_var 0) e_int (nomark _)) (ss_one (s_raise X_BadCondition rfl (hr.mono (by omega)) (by rfl) tk (a_cons (e_var 1) a_nil))) ss_nil)
      (ss_cons (s_if (t_cmp (eq_op hr) o_eq (e_var 0) e_int (nomark _)) (ss_one (s_raise X_BadLabel rfl (hr.mono (by omega)) (by rfl) tk (a_cons (e_var 1) a_nil))) ss_nil)
      (ss_cons (s_if (t_cmp (eq_op hr) o_eq (e_var 0) e_int (nomark _)) (ss_one (s_raise X_NoLabel rfl (hr.mono (by omega)) (by rfl) tk (a_cons (e_var 1) a_nil))) ss_nil)
      (ss_cons (s_if (t_cmp (eq_op hr) o_eq (e_var 0) e_int (nomark _)) (ss_one (s_raise X_BadStep rfl (hr.mono (by omega)) (by rfl) tk (a_cons (e_var 1) a_nil))) ss_nil)
      (ss_cons (s_if (t_cmp (eq_op hr) o_eq (e_var 0) e_int (nomark _)) (ss_one (s_raise X_WrongNumber rfl (hr.mono (by omega)) (by rfl) tk (a_cons (e_var 1) (a_cons (e_var 2) a_nil)))) ss_nil)
      (ss_cons (s_if (t_cmp (eq_op hr) o_eq (e_var 0) e_int (nomark _)) (ss_one (s_raise X_TooMuch rfl (hr.mono (by omega)) (by rfl) tk (a_cons (e_var 1) a_nil))) ss_nil)
      (ss_one (s_raise X_NoGuard rfl (hr.mono (by omega)) (by rfl) tk (a_cons (e_var 1) a_nil)))))))))) ?_
  · obtain ⟨i, C, fs, x, y, rfl, h9, hi, hL, hf, hq⟩ := h
    rfl
  · walk_at "mono"
  · intro xs S Q X cQ cX h
    obtain ⟨i, C, fs, x, y, rfl, h9, hi, hL, hf, hq⟩ := h
    simp only [KQ.startT, List.map_cons, List.map_nil, List.length_cons, List.length_nil, Nat.reduceAdd, Nat.reduceSub, List.replicate_succ, List.replicate_zero, List.cons_append, List.nil_append]
    match i, h9, hi with
    | 9, _, _ =>
      cases hL; cases hf
      replace hq := Hide.mk hq
      rw [show ((9 : Nat) : Int) = 9 from rfl]
      walk_at "vn"
      all_goals exact hq.go
    | 10, _, _ =>
      cases hL; cases hf
      replace hq := Hide.mk hq
      rw [show ((10 : Nat) : Int) = 10 from rfl]
      walk_at "vn"
      all_goals exact hq.go
    | 11, _, _ =>
      cases hL; cases hf
      replace hq := Hide.mk hq
      rw [show ((11 : Nat) : Int) = 11 from rfl]
      walk_at "vn"
      all_goals exact hq.go
    | 12, _, _ =>
      cases hL; cases hf
      replace hq := Hide.mk hq
      rw [show ((12 : Nat) : Int) = 12 from rfl]
      walk_at "vn"
      all_goals exact hq.go
    | 13, _, _ =>
      cases hL; cases hf
      replace hq := Hide.mk hq
      rw [show ((13 : Nat) : Int) = 13 from rfl]
      walk_at "vn"
      all_goals exact hq.go
    | 14, _, _ =>
      cases hL; cases hf
      replace hq := Hide.mk hq
      rw [show ((14 : Nat) : Int) = 14 from rfl]
      walk_at "vn"
      all_goals exact hq.go
    | 15, _, _ =>
      cases hL; cases hf
      replace hq := Hide.mk hq
      rw [show ((15 : Nat) : Int) = 15 from rfl]
      walk_at "vn"
      all_goals exact hq.go

/-! ### _law_caught -/
abbrev N__law_caught : List Str := ["_law_which", "_law_a", "_law_b", "_law_c", "e"]
theorem sc__law_caught : FnScope N__law_caught ["_law_which", "_law_a", "_law_b", "_law_c"] (defScope s__law_caught) := ⟨rfl, rfl, rfl, by decide +kernel, rfl, by decide +kernel, by decide +kernel⟩
def sp_caught98 : TSp := fun xs S Q X => ∃ (i : Nat) (x y z : Tr), xs = [.int i, x, y, z] ∧ i < 16 ∧ Q (.bl true) S
theorem ok__law_caught (T : Top K mg A) {k : Nat} (C__law_raise_early : CalleeT P w K mg base k "_law_raise_early" ["_law_which", "_law_a", "_law_b", "_law_c"] (sp_early98 [A.BadKey, A.DoubleKey, A.NoKey, A.NotText, A.TooDeep, A.BadOption, A.Unwritable, A.Unreadable, A.Refused, A.BadCondition, A.BadLabel, A.NoLabel, A.BadStep, A.WrongNumber, A.TooMuch, A.NoGuard])) (C__law_raise_late : CalleeT P w K mg base k "_law_raise_late" ["_law_which", "_law_a", "_law_b"] (sp_late98 [A.BadKey, A.DoubleKey, A.NoKey, A.NotText, A.TooDeep, A.BadOption, A.Unwritable, A.Unreadable, A.Refused, A.BadCondition, A.BadLabel, A.NoLabel, A.BadStep, A.WrongNumber, A.TooMuch, A.NoGuard]))  : CalleeT P w K mg base (k + 1) "_law_caught" ["_law_which", "_law_a", "_law_b", "_law_c"] (sp_caught98) := by
  have nd := sc__law_caught.nd
  refine Def.okT T.d__law_caught sc__law_caught (fun _ _ _ _ _ _ us hl => match us, hl with | [_, _, _, _], _ => rfl) (fun xs S Q X h => ?_) ?_ (fun f cdv AA outer s H E hr tk po => have hu := hu_of hr; (ss_cons (s_try (K := K) rfl rfl rfl tk (fun W pn xe tk po => (ss_one (s_if (t_cmp op_lt o_lt (e_var 0) e_int (nomark _)) (ss_one (s_expr (e_call C__law_raise_early (hr.mono (by omega)) (by rfl) tk (a_cons (e_var 0) (a_cons (e_var 1) (a_cons (e_var 2) (a_cons (e_var 3) a_nil))))))) (ss_one (s_expr (e_call C__law_raise_late (hr.mono (by omega)) (by rfl) tk (a_cons (e_var 0) (a_cons (e_var 1) (a_cons (e_var 2) a_nil))))))))) (.named (i := 4) nd rfl rfl ⟨by rfl, by decide, .inl T.c_KeysError.mg⟩ (fun e d o k pn z f => (ss_one (s_ret (e_isE z.zc f (K := K) rfl (by rfl) T.b.b_isinstance (e_var 4) (pe_bltn (v := .ty "ValueError") (by rfl) T.b.b_ValueError boot_ValueError rfl) (.ty _))))) .nil))
      (ss_one (s_ret e_bl)))) ?_
  · obtain ⟨i, x, y, z, rfl, hi, hq⟩ := h
    rfl
  · walk_at "mono"
  · intro xs S Q X cQ cX h
    obtain ⟨i, x, y, z, rfl, hi, hq⟩ := h
    simp only [KQ.startT, List.map_cons, List.map_nil, List.length_cons, List.length_nil, Nat.reduceAdd, Nat.reduceSub, List.replicate_succ, List.replicate_zero, List.cons_append, List.nil_append]
    replace hq := Hide.mk hq
    have hx : ∃ C fs, [A.BadKey, A.DoubleKey, A.NoKey, A.NotText, A.TooDeep, A.BadOption, A.Unwritable, A.Unreadable, A.Refused, A.BadCondition, A.BadLabel, A.NoLabel, A.BadStep, A.WrongNumber, A.TooMuch, A.NoGuard][i]? = some C ∧ fld98[i]? = some fs ∧ ExcC K C ∧ PySem.W.exmOne K (.ref C) (.ref A.KeysError) = some true ∧ PySem.W.kitOne K (.ref C) (.type "ValueError") = some true := by
      rcases (by omega : i = 0 ∨ i = 1 ∨ i = 2 ∨ i = 3 ∨ i = 4 ∨ i = 5 ∨ i = 6 ∨ i = 7 ∨ i = 8 ∨ i = 9 ∨ i = 10 ∨ i = 11 ∨ i = 12 ∨ i = 13 ∨ i = 14 ∨ i = 15) with rfl | rfl | rfl | rfl | rfl | rfl | rfl | rfl | rfl | rfl | rfl | rfl | rfl | rfl | rfl | rfl
      · exact ⟨_, _, rfl, rfl, T.xc_BadKey, T.em_BadKey_KeysError, T.ki_BadKey_ValueError⟩
      · exact ⟨_, _, rfl, rfl, T.xc_DoubleKey, T.em_DoubleKey_KeysError, T.ki_DoubleKey_ValueError⟩
      · exact ⟨_, _, rfl, rfl, T.xc_NoKey, T.em_NoKey_KeysError, T.ki_NoKey_ValueError⟩
      · exact ⟨_, _, rfl, rfl, T.xc_NotText, T.em_NotText_KeysError, T.ki_NotText_ValueError⟩
      · exact ⟨_, _, rfl, rfl, T.xc_TooDeep, T.em_TooDeep_KeysError, T.ki_TooDeep_ValueError⟩
      · exact ⟨_, _, rfl, rfl, T.xc_BadOption, T.em_BadOption_KeysError, T.ki_BadOption_ValueError⟩
      · exact ⟨_, _, rfl, rfl, T.xc_Unwritable, T.em_Unwritable_KeysError, T.ki_Unwritable_ValueError⟩
      · exact ⟨_, _, rfl, rfl, T.xc_Unreadable, T.em_Unreadable_KeysError, T.ki_Unreadable_ValueError⟩
      · exact ⟨_, _, rfl, rfl, T.xc_Refused, T.em_Refused_KeysError, T.ki_Refused_ValueError⟩
      · exact ⟨_, _, rfl, rfl, T.xc_BadCondition, T.em_BadCondition_KeysError, T.ki_BadCondition_ValueError⟩
      · exact ⟨_, _, rfl, rfl, T.xc_BadLabel, T.em_BadLabel_KeysError, T.ki_BadLabel_ValueError⟩
      · exact ⟨_, _, rfl, rfl, T.xc_NoLabel, T.em_NoLabel_KeysError, T.ki_NoLabel_ValueError⟩
      · exact ⟨_, _, rfl, rfl, T.xc_BadStep, T.em_BadStep_KeysError, T.ki_BadStep_ValueError⟩
      · exact ⟨_, _, rfl, rfl, T.xc_WrongNumber, T.em_WrongNumber_KeysError, T.ki_WrongNumber_ValueError⟩
      · exact ⟨_, _, rfl, rfl, T.xc_TooMuch, T.em_TooMuch_KeysError, T.ki_TooMuch_ValueError⟩
      · exact ⟨_, _, rfl, rfl, T.xc_NoGuard, T.em_NoGuard_KeysError, T.ki_NoGuard_ValueError⟩
    obtain ⟨C, fs, hL, hf, xc, em, ki⟩ := hx
    replace xc := Hide.mk xc
    replace em := Hide.mk em
    replace ki := Hide.mk ki
    walk_at "vn"
    have fin : ∀ ys, hX K { nx := uRet (uC (Tr.bl false)) (endU Q) (endX X), rt := (endU Q).rt, bk := (endU Q).bk, ct := (endU Q).ct } (endX X) [(Value.ref A.KeysError, some 4, fun e d k => uRet (uIsE K e d k (Value.type "ValueError") (uVar 4)))] (.ref C) fs ys [some (Tr.int i), some x, some y, some z, none] S := fun ys => by
      refine ⟨true, em.go, fun _ e d => ?_, fun h => nomatch h⟩
      exact ⟨_, rfl, C, fs, ys, true, rfl, rfl, xc.go, ki.go, hq.go⟩
    split
    · exact ⟨i, C, fs, x, y, z, rfl, by omega, hL, hf, fin _⟩
    · exact ⟨i, C, fs, x, y, rfl, by omega, hi, hL, hf, fin _⟩

/-! ### _law_classes -/
abbrev N__law_classes : List Str := ["_law_x", "_law_found"]
theorem sc__law_classes : FnScope N__law_classes ["_law_x"] (defScope s__law_classes) := ⟨rfl, rfl, rfl, by decide +kernel, rfl, by decide +kernel, by decide +kernel⟩
def sp_classes98 (K : PySem.W.Frag) (L : List Addr) : TSp := fun xs S Q X => ∃ (i : Nat) (C : Addr) (fs : List Str) (ys : List Tr), xs = [xvT K C fs ys] ∧ L[i]? = some C ∧ Q (.lst ((List.range 16).map fun j => .bl (decide (j = i)))) S
theorem ok__law_classes (T : Top K mg A) {k : Nat}   : CalleeT P w K mg base (k + 1) "_law_classes" ["_law_x"] (sp_classes98 K [A.BadKey, A.DoubleKey, A.NoKey, A.NotText, A.TooDeep, A.BadOption, A.Unwritable, A.Unreadable, A.Refused, A.BadCondition, A.BadLabel, A.NoLabel, A.BadStep, A.WrongNumber, A.TooMuch, A.NoGuard]) := by
  have nd := sc__law_classes.nd
  refine Def.okT T.d__law_classes sc__law_classes (fun _ _ _ _ _ _ us hl => match us, hl with | [_], _ => rfl) (fun xs S Q X h => ?_) ?_ (fun f cdv AA outer s H E hr tk po => have hu := hu_of hr; (ss_cons (s_set (i := 1) nd rfl (Or.inl rfl) (e_lst (a_cons (e_isV (K := K) rfl (by rfl) T.b.b_isinstance (e_var 0) (pe_glob (v := .ref A.BadKey) (by rfl) T.c_BadKey.mg rfl (by decide)) (.own _)) (a_cons (e_isV (K := K) rfl (by rfl) T.b.b_isinstance (e_var 0) (pe_glob (v := .ref A.DoubleKey) (by rfl) T.c_DoubleKey.mg rfl (by decide)) (.own _)) (a_cons (e_isV (K := K) rfl (by rfl) T.b.b_isinstance (e_var 0) (pe_glob (v := .ref A.NoKey) (by rfl) T.c_NoKey.mg rfl (by decide)) (.own _)) (a_cons (e_isV (K := K) rfl (by rfl) T.b.b_isinstance (e_var 0) (pe_glob (v := .ref A.NotText) (by rfl) T.c_NotText.mg rfl (by decide)) (.own _)) a_nil))))))
      (ss_cons (s_set (i := 1) nd rfl (Or.inl rfl) (e_op ad_op o_add (e_var 1) (e_lst (a_cons (e_isV (K := K) rfl (by rfl) T.b.b_isinstance (e_var 0) (pe_glob (v := .ref A.TooDeep) (by rfl) T.c_TooDeep.mg rfl (by decide)) (.own _)) (a_cons (e_isV (K := K) rfl (by rfl) T.b.b_isinstance (e_var 0) (pe_glob (v := .ref A.BadOption) (by rfl) T.c_BadOption.mg rfl (by decide)) (.own _)) (a_cons (e_isV (K := K) rfl (by rfl) T.b.b_isinstance (e_var 0) (pe_glob (v := .ref A.Unwritable) (by rfl) T.c_Unwritable.mg rfl (by decide)) (.own _)) a_nil))))))
      (ss_cons (s_set (i := 1) nd rfl (Or.inl rfl) (e_op ad_op o_add (e_var 1) (e_lst (a_cons (e_isV (K := K) rfl (by rfl) T.b.b_isinstance (e_var 0) (pe_glob (v := .ref A.Unreadable) (by rfl) T.c_Unreadable.mg rfl (by decide)) (.own _)) (a_cons (e_isV (K := K) rfl (by rfl) T.b.b_isinstance (e_var 0) (pe_glob (v := .ref A.Refused) (by rfl) T.c_Refused.mg rfl (by decide)) (.own _)) (a_cons (e_isV (K := K) rfl (by rfl) T.b.b_isinstance (e_var 0) (pe_glob (v := .ref A.BadCondition) (by rfl) T.c_BadCondition.mg rfl (by decide)) (.own _)) a_nil))))))
      (ss_cons (s_set (i := 1) nd rfl (Or.inl rfl) (e_op ad_op o_add (e_var 1) (e_lst (a_cons (e_isV (K := K) rfl (by rfl) T.b.b_isinstance (e_var 0) (pe_glob (v := .ref A.BadLabel) (by rfl) T.c_BadLabel.mg rfl (by decide)) (.own _)) (a_cons (e_isV (K := K) rfl (by rfl) T.b.b_isinstance (e_var 0) (pe_glob (v := .ref A.NoLabel) (by rfl) T.c_NoLabel.mg rfl (by decide)) (.own _)) (a_cons (e_isV (K := K) rfl (by rfl) T.b.b_isinstance (e_var 0) (pe_glob (v := .ref A.BadStep) (by rfl) T.c_BadStep.mg rfl (by decide)) (.own _)) a_nil))))))
      (ss_one (s_ret (e_op ad_op o_add (e_var 1) (e_lst (a_cons (e_isV (K := K) rfl (by rfl) T.b.b_isinstance (e_var 0) (pe_glob (v := .ref A.WrongNumber) (by rfl) T.c_WrongNumber.mg rfl (by decide)) (.own _)) (a_cons (e_isV (K := K) rfl (by rfl) T.b.b_isinstance (e_var 0) (pe_glob (v := .ref A.TooMuch) (by rfl) T.c_TooMuch.mg rfl (by decide)) (.own _)) (a_cons (e_isV (K := K) rfl (by rfl) T.b.b_isinstance (e_var 0) (pe_glob (v := .ref A.NoGuard) (by rfl) T.c_NoGuard.mg rfl (by decide)) (.own _)) a_nil)))))))))))) ?_
  · obtain ⟨i, C, fs, ys, rfl, hL, hq⟩ := h
    rfl
  · walk_at "mono"
  · intro xs S Q X cQ cX h
    obtain ⟨i, C, fs, ys, rfl, hL, hq⟩ := h
    simp only [KQ.startT, List.map_cons, List.map_nil, List.length_cons, List.length_nil, Nat.reduceAdd, Nat.reduceSub, List.replicate_succ, List.replicate_zero, List.cons_append, List.nil_append]
    have hi : i < 16 := (List.getElem?_eq_some_iff.mp hL).1
    have hx : ExcC K C ∧ PySem.W.kitOne K (.ref C) (.ref A.BadKey) = some (decide (0 = i)) ∧ PySem.W.kitOne K (.ref C) (.ref A.DoubleKey) = some (decide (1 = i)) ∧ PySem.W.kitOne K (.ref C) (.ref A.NoKey) = some (decide (2 = i)) ∧ PySem.W.kitOne K (.ref C) (.ref A.NotText) = some (decide (3 = i)) ∧ PySem.W.kitOne K (.ref C) (.ref A.TooDeep) = some (decide (4 = i)) ∧ PySem.W.kitOne K (.ref C) (.ref A.BadOption) = some (decide (5 = i)) ∧ PySem.W.kitOne K (.ref C) (.ref A.Unwritable) = some (decide (6 = i)) ∧ PySem.W.kitOne K (.ref C) (.ref A.Unreadable) = some (decide (7 = i)) ∧ PySem.W.kitOne K (.ref C) (.ref A.Refused) = some (decide (8 = i)) ∧ PySem.W.kitOne K (.ref C) (.ref A.BadCondition) = some (decide (9 = i)) ∧ PySem.W.kitOne K (.ref C) (.ref A.BadLabel) = some (decide (10 = i)) ∧ PySem.W.kitOne K (.ref C) (.ref A.NoLabel) = some (decide (11 = i)) ∧ PySem.W.kitOne K (.ref C) (.ref A.BadStep) = some (decide (12 = i)) ∧ PySem.W.kitOne K (.ref C) (.ref A.WrongNumber) = some (decide (13 = i)) ∧ PySem.W.kitOne K (.ref C) (.ref A.TooMuch) = some (decide (14 = i)) ∧ PySem.W.kitOne K (.ref C) (.ref A.NoGuard) = some (decide (15 = i)) := by
      match i, hi with
      | 0, _ => cases hL; exact ⟨T.xc_BadKey, T.ki_BadKey_BadKey, T.ki_BadKey_DoubleKey, T.ki_BadKey_NoKey, T.ki_BadKey_NotText, T.ki_BadKey_TooDeep, T.ki_BadKey_BadOption, T.ki_BadKey_Unwritable, T.ki_BadKey_Unreadable, T.ki_BadKey_Refused, T.ki_BadKey_BadCondition, T.ki_BadKey_BadLabel, T.ki_BadKey_NoLabel, T.ki_BadKey_BadStep, T.ki_BadKey_WrongNumber, T.ki_BadKey_TooMuch, T.ki_BadKey_NoGuard⟩
      | 1, _ => cases hL; exact ⟨T.xc_DoubleKey, T.ki_DoubleKey_BadKey, T.ki_DoubleKey_DoubleKey, T.ki_DoubleKey_NoKey, T.ki_DoubleKey_NotText, T.ki_DoubleKey_TooDeep, T.ki_DoubleKey_BadOption, T.ki_DoubleKey_Unwritable, T.ki_DoubleKey_Unreadable, T.ki_DoubleKey_Refused, T.ki_DoubleKey_BadCondition, T.ki_DoubleKey_BadLabel, T.ki_DoubleKey_NoLabel, T.ki_DoubleKey_BadStep, T.ki_DoubleKey_WrongNumber, T.ki_DoubleKey_TooMuch, T.ki_DoubleKey_NoGuard⟩
      | 2, _ => cases hL; exact ⟨T.xc_NoKey, T.ki_NoKey_BadKey, T.ki_NoKey_DoubleKey, T.ki_NoKey_NoKey, T.ki_NoKey_NotText, T.ki_NoKey_TooDeep, T.ki_NoKey_BadOption, T.ki_NoKey_Unwritable, T.ki_NoKey_Unreadable, T.ki_NoKey_Refused, T.ki_NoKey_BadCondition, T.ki_NoKey_BadLabel, T.ki_NoKey_NoLabel, T.ki_NoKey_BadStep, T.ki_NoKey_WrongNumber, T.ki_NoKey_TooMuch, T.ki_NoKey_NoGuard⟩
      | 3, _ => cases hL; exact ⟨T.xc_NotText, T.ki_NotText_BadKey, T.ki_NotText_DoubleKey, T.ki_NotText_NoKey, T.ki_NotText_NotText, T.ki_NotText_TooDeep, T.ki_NotText_BadOption, T.ki_NotText_Unwritable, T.ki_NotText_Unreadable, T.ki_NotText_Refused, T.ki_NotText_BadCondition, T.ki_NotText_BadLabel, T.ki_NotText_NoLabel, T.ki_NotText_BadStep, T.ki_NotText_WrongNumber, T.ki_NotText_TooMuch, T.ki_NotText_NoGuard⟩
      | 4, _ => cases hL; exact ⟨T.xc_TooDeep, T.ki_TooDeep_BadKey, T.ki_TooDeep_DoubleKey, T.ki_TooDeep_NoKey, T.ki_TooDeep_NotText, T.ki_TooDeep_TooDeep, T.ki_TooDeep_BadOption, T.ki_TooDeep_Unwritable, T.ki_TooDeep_Unreadable, T.ki_TooDeep_Refused, T.ki_TooDeep_BadCondition, T.ki_TooDeep_BadLabel, T.ki_TooDeep_NoLabel, T.ki_TooDeep_BadStep, T.ki_TooDeep_WrongNumber, T.ki_TooDeep_TooMuch, T.ki_TooDeep_NoGuard⟩
      | 5, _ => cases hL; exact ⟨T.xc_BadOption, T.ki_BadOption_BadKey, T.ki_BadOption_DoubleKey, T.ki_BadOption_NoKey, T.ki_BadOption_NotText, T.ki_BadOption_TooDeep, T.ki_BadOption_BadOption, T.ki_BadOption_Unwritable, T.ki_BadOption_Unreadable, T.ki_BadOption_Refused, T.ki_BadOption_BadCondition, T.ki_BadOption_BadLabel, T.ki_BadOption_NoLabel, T.ki_BadOption_BadStep, T.ki_BadOption_WrongNumber, T.ki_BadOption_TooMuch, T.ki_BadOption_NoGuard⟩
      | 6, _ => cases hL; exact ⟨T.xc_Unwritable, T.ki_Unwritable_BadKey, T.ki_Unwritable_DoubleKey, T.ki_Unwritable_NoKey, T.ki_Unwritable_NotText, T.ki_Unwritable_TooDeep, T.ki_Unwritable_BadOption, T.ki_Unwritable_Unwritable, T.ki_Unwritable_Unreadable, T.ki_Unwritable_Refused, T.ki_Unwritable_BadCondition, T.ki_Unwritable_BadLabel, T.ki_Unwritable_NoLabel, T.ki_Unwritable_BadStep, T.ki_Unwritable_WrongNumber, T.ki_Unwritable_TooMuch, T.ki_Unwritable_NoGuard⟩
      | 7, _ => cases hL; exact ⟨T.xc_Unreadable, T.ki_Unreadable_BadKey, T.ki_Unreadable_DoubleKey, T.ki_Unreadable_NoKey, T.ki_Unreadable_NotText, T.ki_Unreadable_TooDeep, T.ki_Unreadable_BadOption, T.ki_Unreadable_Unwritable, T.ki_Unreadable_Unreadable, T.ki_Unreadable_Refused, T.ki_Unreadable_BadCondition, T.ki_Unreadable_BadLabel, T.ki_Unreadable_NoLabel, T.ki_Unreadable_BadStep, T.ki_Unreadable_WrongNumber, T.ki_Unreadable_TooMuch, T.ki_Unreadable_NoGuard⟩
      | 8, _ => cases hL; exact ⟨T.xc_Refused, T.ki_Refused_BadKey, T.ki_Refused_DoubleKey, T.ki_Refused_NoKey, T.ki_Refused_NotText, T.ki_Refused_TooDeep, T.ki_Refused_BadOption, T.ki_Refused_Unwritable, T.ki_Refused_Unreadable, T.ki_Refused_Refused, T.ki_Refused_BadCondition, T.ki_Refused_BadLabel, T.ki_Refused_NoLabel, T.ki_Refused_BadStep, T.ki_Refused_WrongNumber, T.ki_Refused_TooMuch, T.ki_Refused_NoGuard⟩
      | 9, _ => cases hL; exact ⟨T.xc_BadCondition, T.ki_BadCondition_BadKey, T.ki_BadCondition_DoubleKey, T.ki_BadCondition_NoKey, T.ki_BadCondition_NotText, T.ki_BadCondition_TooDeep, T.ki_BadCondition_BadOption, T.ki_BadCondition_Unwritable, T.ki_BadCondition_Unreadable, T.ki_BadCondition_Refused, T.ki_BadCondition_BadCondition, T.ki_BadCondition_BadLabel, T.ki_BadCondition_NoLabel, T.ki_BadCondition_BadStep, T.ki_BadCondition_WrongNumber, T.ki_BadCondition_TooMuch, T.ki_BadCondition_NoGuard⟩
      | 10, _ => cases hL; exact ⟨T.xc_BadLabel, T.ki_BadLabel_BadKey, T.ki_BadLabel_DoubleKey, T.ki_BadLabel_NoKey, T.ki_BadLabel_NotText, T.ki_BadLabel_TooDeep, T.ki_BadLabel_BadOption, T.ki_BadLabel_Unwritable, T.ki_BadLabel_Unreadable, T.ki_BadLabel_Refused, T.ki_BadLabel_BadCondition, T.ki_BadLabel_BadLabel, T.ki_BadLabel_NoLabel, T.ki_BadLabel_BadStep, T.ki_BadLabel_WrongNumber, T.ki_BadLabel_TooMuch, T.ki_BadLabel_NoGuard⟩
      | 11, _ => cases hL; exact ⟨T.xc_NoLabel, T.ki_NoLabel_BadKey, T.ki_NoLabel_DoubleKey, T.ki_NoLabel_NoKey, T.ki_NoLabel_NotText, T.ki_NoLabel_TooDeep, T.ki_NoLabel_BadOption, T.ki_NoLabel_Unwritable, T.ki_NoLabel_Unreadable, T.ki_NoLabel_Refused, T.ki_NoLabel_BadCondition, T.ki_NoLabel_BadLabel, T.ki_NoLabel_NoLabel, T.ki_NoLabel_BadStep, T.ki_NoLabel_WrongNumber, T.ki_NoLabel_TooMuch, T.ki_NoLabel_NoGuard⟩
      | 12, _ => cases hL; exact ⟨T.xc_BadStep, T.ki_BadStep_BadKey, T.ki_BadStep_DoubleKey, T.ki_BadStep_NoKey, T.ki_BadStep_NotText, T.ki_BadStep_TooDeep, T.ki_BadStep_BadOption, T.ki_BadStep_Unwritable, T.ki_BadStep_Unreadable, T.ki_BadStep_Refused, T.ki_BadStep_BadCondition, T.ki_BadStep_BadLabel, T.ki_BadStep_NoLabel, T.ki_BadStep_BadStep, T.ki_BadStep_WrongNumber, T.ki_BadStep_TooMuch, T.ki_BadStep_NoGuard⟩
      | 13, _ => cases hL; exact ⟨T.xc_WrongNumber, T.ki_WrongNumber_BadKey, T.ki_WrongNumber_DoubleKey, T.ki_WrongNumber_NoKey, T.ki_WrongNumber_NotText, T.ki_WrongNumber_TooDeep, T.ki_WrongNumber_BadOption, T.ki_WrongNumber_Unwritable, T.ki_WrongNumber_Unreadable, T.ki_WrongNumber_Refused, T.ki_WrongNumber_BadCondition, T.ki_WrongNumber_BadLabel, T.ki_WrongNumber_NoLabel, T.ki_WrongNumber_BadStep, T.ki_WrongNumber_WrongNumber, T.ki_WrongNumber_TooMuch, T.ki_WrongNumber_NoGuard⟩
      | 14, _ => cases hL; exact ⟨T.xc_TooMuch, T.ki_TooMuch_BadKey, T.ki_TooMuch_DoubleKey, T.ki_TooMuch_NoKey, T.ki_TooMuch_NotText, T.ki_TooMuch_TooDeep, T.ki_TooMuch_BadOption, T.ki_TooMuch_Unwritable, T.ki_TooMuch_Unreadable, T.ki_TooMuch_Refused, T.ki_TooMuch_BadCondition, T.ki_TooMuch_BadLabel, T.ki_TooMuch_NoLabel, T.ki_TooMuch_BadStep, T.ki_TooMuch_WrongNumber, T.ki_TooMuch_TooMuch, T.ki_TooMuch_NoGuard⟩
      | 15, _ => cases hL; exact ⟨T.xc_NoGuard, T.ki_NoGuard_BadKey, T.ki_NoGuard_DoubleKey, T.ki_NoGuard_NoKey, T.ki_NoGuard_NotText, T.ki_NoGuard_TooDeep, T.ki_NoGuard_BadOption, T.ki_NoGuard_Unwritable, T.ki_NoGuard_Unreadable, T.ki_NoGuard_Refused, T.ki_NoGuard_BadCondition, T.ki_NoGuard_BadLabel, T.ki_NoGuard_NoLabel, T.ki_NoGuard_BadStep, T.ki_NoGuard_WrongNumber, T.ki_NoGuard_TooMuch, T.ki_NoGuard_NoGuard⟩
    obtain ⟨xc, k0, k1, k2, k3, k4, k5, k6, k7, k8, k9, k10, k11, k12, k13, k14, k15⟩ := hx
    replace hq := Hide.mk hq
    replace k0 := Hide.mk k0
    replace k1 := Hide.mk k1
    replace k2 := Hide.mk k2
    replace k3 := Hide.mk k3
    replace k4 := Hide.mk k4
    replace k5 := Hide.mk k5
    replace k6 := Hide.mk k6
    replace k7 := Hide.mk k7
    replace k8 := Hide.mk k8
    replace k9 := Hide.mk k9
    replace k10 := Hide.mk k10
    replace k11 := Hide.mk k11
    replace k12 := Hide.mk k12
    replace k13 := Hide.mk k13
    replace k14 := Hide.mk k14
    replace k15 := Hide.mk k15
    clear hL
    walk_at "vn"
    refine ⟨C, ⟨_, _, rfl⟩, xc, _, k0.go, ?_⟩
    refine ⟨C, ⟨_, _, rfl⟩, xc, _, k1.go, ?_⟩
    refine ⟨C, ⟨_, _, rfl⟩, xc, _, k2.go, ?_⟩
    refine ⟨C, ⟨_, _, rfl⟩, xc, _, k3.go, ?_⟩
    refine ⟨C, ⟨_, _, rfl⟩, xc, _, k4.go, ?_⟩
    refine ⟨C, ⟨_, _, rfl⟩, xc, _, k5.go, ?_⟩
    refine ⟨C, ⟨_, _, rfl⟩, xc, _, k6.go, ?_⟩
    refine ⟨(show (7 : Nat) ≤ sizeLine by decide), ?_⟩
    refine ⟨C, ⟨_, _, rfl⟩, xc, _, k7.go, ?_⟩
    refine ⟨C, ⟨_, _, rfl⟩, xc, _, k8.go, ?_⟩
    refine ⟨C, ⟨_, _, rfl⟩, xc, _, k9.go, ?_⟩
    refine ⟨(show (10 : Nat) ≤ sizeLine by decide), ?_⟩
    refine ⟨C, ⟨_, _, rfl⟩, xc, _, k10.go, ?_⟩
    refine ⟨C, ⟨_, _, rfl⟩, xc, _, k11.go, ?_⟩
    refine ⟨C, ⟨_, _, rfl⟩, xc, _, k12.go, ?_⟩
    refine ⟨(show (13 : Nat) ≤ sizeLine by decide), ?_⟩
    refine ⟨C, ⟨_, _, rfl⟩, xc, _, k13.go, ?_⟩
    refine ⟨C, ⟨_, _, rfl⟩, xc, _, k14.go, ?_⟩
    refine ⟨C, ⟨_, _, rfl⟩, xc, _, k15.go, ?_⟩
    refine ⟨(show (16 : Nat) ≤ sizeLine by decide), ?_⟩
    exact hq.go

/-! ### _law_fields -/
abbrev N__law_fields : List Str := ["_law_which", "_law_x"]
theorem sc__law_fields : FnScope N__law_fields ["_law_which", "_law_x"] (defScope s__law_fields) := ⟨rfl, rfl, rfl, by decide +kernel, rfl, by decide +kernel, by decide +kernel⟩
def sp_fields98 (K : PySem.W.Frag) (L : List Addr) : TSp := fun xs S Q X => ∃ (i : Nat) (C : Addr) (fs : List Str) (ys : List Tr), xs = [.int i, xvT K C fs ys] ∧ L[i]? = some C ∧ fld98[i]? = some fs ∧ ys.length = fs.length ∧ Q (.lst ys) S
theorem ok__law_fields (T : Top K mg A) {k : Nat}   : CalleeT P w K mg base (k + 1) "_law_fields" ["_law_which", "_law_x"] (sp_fields98 K [A.BadKey, A.DoubleKey, A.NoKey, A.NotText, A.TooDeep, A.BadOption, A.Unwritable, A.Unreadable, A.Refused, A.BadCondition, A.BadLabel, A.NoLabel, A.BadStep, A.WrongNumber, A.TooMuch, A.NoGuard]) := by
  have nd := sc__law_fields.nd
  refine Def.okT T.d__law_fields sc__law_fields (fun _ _ _ _ _ _ us hl => match us, hl with | [_, _], _ => rfl) (fun xs S Q X h => ?_) ?_ (fun f cdv AA outer s H E hr tk po => have hu := hu_of hr; (ss_cons (s_if (t_cmp op_lt o_lt (e_var 0) e_int (nomark _)) (ss_one (s_ret (e_lst (a_cons (e_xvf (K := K) rfl (e_var 1)) a_nil)))) ss_nil)
      (ss_cons (s_if (t_cmp op_lt o_lt (e_var 0) e_int (nomark _)) (ss_one (s_ret (e_lst (a_cons (e_xvf (K := K) rfl (e_var 1)) a_nil)))) ss_nil)
      (ss_cons (s_if (t_cmp (eq_op hr) o_eq (e_var 0) e_int (nomark _)) (ss_one (s_ret (e_lst (a_cons (e_xvf (K := K) rfl (e_var 1)) (a_cons (e_xvf (K := K) rfl (e_var 1)) a_nil))))) ss_nil)
      (ss_cons (s_if (t_cmp op_lt o_lt (e_var 0) e_int (nomark _)) (ss_one (s_ret (e_lst (a_cons (e_xvf (K := K) rfl (e_var 1)) (a_cons (e_xvf (K := K) rfl (e_var 1)) a_nil))))) ss_nil)
      (ss_cons (s_if (t_cmp (eq_op hr) o_eq (e_var 0) e_int (nomark _)) (ss_one (s_ret (e_lst (a_cons (e_xvf (K := K) rfl (e_var 1)) (a_cons (e_xvf (K := K) rfl (e_var 1)) (a_cons (e_xvf (K := K) rfl (e_var 1)) a_nil)))))) ss_nil)
      (ss_cons (s_if (t_cmp (eq_op hr) o_eq (e_var 0) e_int (nomark _)) (ss_one (s_ret (e_lst (a_cons (e_xvf (K := K) rfl (e_var 1)) a_nil)))) ss_nil)
      (ss_cons (s_if (TPW.pt (w_or (t_cmp (eq_op hr) o_eq (e_var 0) e_int (nomark _)) (w_or1 (t_cmp (eq_op hr) o_eq (e_var 0) e_int (nomark _))))) (ss_one (s_ret (e_lst (a_cons (e_xvf (K := K) rfl (e_var 1)) a_nil)))) ss_nil)
      (ss_cons (s_if (t_cmp (eq_op hr) o_eq (e_var 0) e_int (nomark _)) (ss_one (s_ret (e_lst (a_cons (e_xvf (K := K) rfl (e_var 1)) a_nil)))) ss_nil)
      (ss_cons (s_if (t_cmp (eq_op hr) o_eq (e_var 0) e_int (nomark _)) (ss_one (s_ret (e_lst (a_cons (e_xvf (K := K) rfl (e_var 1)) a_nil)))) ss_nil)
      (ss_cons (s_if (t_cmp (eq_op hr) o_eq (e_var 0) e_int (nomark _)) (ss_one (s_ret (e_lst (a_cons (e_xvf (K := K) rfl (e_var 1)) (a_cons (e_xvf (K := K) rfl (e_var 1)) a_nil))))) ss_nil)
      (ss_one (s_ret (e_lst (a_cons (e_xvf (K := K) rfl (e_var 1)) a_nil))))))))))))))) ?_
  · obtain ⟨i, C, fs, ys, rfl, hL, hf, ly, hq⟩ := h
    rfl
  · walk_at "mono"
  · intro xs S Q X cQ cX h
    obtain ⟨i, C, fs, ys, rfl, hL, hf, ly, hq⟩ := h
    simp only [KQ.startT, List.map_cons, List.map_nil, List.length_cons, List.length_nil, Nat.reduceAdd, Nat.reduceSub, List.replicate_succ, List.replicate_zero, List.cons_append, List.nil_append]
    have hi : i < 16 := (List.getElem?_eq_some_iff.mp hL).1
    match i, hi with
    | 0, _ =>
      cases hL; cases hf
      match ys, ly with
      | [y0], _ =>
      replace hq := Hide.mk hq
      rw [show ((0 : Nat) : Int) = 0 from rfl]
      walk_at "vn"
      refine ⟨_, _, _, rfl, T.xc_BadKey, T.nf_BadKey_key, y0, by simp [fget, ofS_inj], ?_⟩
      exact hq.go
    | 1, _ =>
      cases hL; cases hf
      match ys, ly with
      | [y0], _ =>
      replace hq := Hide.mk hq
      rw [show ((1 : Nat) : Int) = 1 from rfl]
      walk_at "vn"
      refine ⟨_, _, _, rfl, T.xc_DoubleKey, T.nf_DoubleKey_key, y0, by simp [fget, ofS_inj], ?_⟩
      exact hq.go
    | 2, _ =>
      cases hL; cases hf
      match ys, ly with
      | [y0], _ =>
      replace hq := Hide.mk hq
      rw [show ((2 : Nat) : Int) = 2 from rfl]
      walk_at "vn"
      refine ⟨_, _, _, rfl, T.xc_NoKey, T.nf_NoKey_key, y0, by simp [fget, ofS_inj], ?_⟩
      exact hq.go
    | 3, _ =>
      cases hL; cases hf
      match ys, ly with
      | [y0], _ =>
      replace hq := Hide.mk hq
      rw [show ((3 : Nat) : Int) = 3 from rfl]
      walk_at "vn"
      refine ⟨_, _, _, rfl, T.xc_NotText, T.nf_NotText_position, y0, by simp [fget, ofS_inj], ?_⟩
      exact hq.go
    | 4, _ =>
      cases hL; cases hf
      match ys, ly with
      | [y0], _ =>
      replace hq := Hide.mk hq
      rw [show ((4 : Nat) : Int) = 4 from rfl]
      walk_at "vn"
      refine ⟨_, _, _, rfl, T.xc_TooDeep, T.nf_TooDeep_position, y0, by simp [fget, ofS_inj], ?_⟩
      exact hq.go
    | 5, _ =>
      cases hL; cases hf
      match ys, ly with
      | [y0, y1], _ =>
      replace hq := Hide.mk hq
      rw [show ((5 : Nat) : Int) = 5 from rfl]
      walk_at "vn"
      refine ⟨_, _, _, rfl, T.xc_BadOption, T.nf_BadOption_name, y0, by simp [fget, ofS_inj], ?_⟩
      refine ⟨_, _, _, rfl, T.xc_BadOption, T.nf_BadOption_value, y1, by simp [fget, ofS_inj], ?_⟩
      exact hq.go
    | 6, _ =>
      cases hL; cases hf
      match ys, ly with
      | [y0, y1], _ =>
      replace hq := Hide.mk hq
      rw [show ((6 : Nat) : Int) = 6 from rfl]
      walk_at "vn"
      refine ⟨_, _, _, rfl, T.xc_Unwritable, T.nf_Unwritable_reason, y0, by simp [fget, ofS_inj], ?_⟩
      refine ⟨_, _, _, rfl, T.xc_Unwritable, T.nf_Unwritable_path, y1, by simp [fget, ofS_inj], ?_⟩
      exact hq.go
    | 7, _ =>
      cases hL; cases hf
      match ys, ly with
      | [y0, y1], _ =>
      replace hq := Hide.mk hq
      rw [show ((7 : Nat) : Int) = 7 from rfl]
      walk_at "vn"
      refine ⟨_, _, _, rfl, T.xc_Unreadable, T.nf_Unreadable_reason, y0, by simp [fget, ofS_inj], ?_⟩
      refine ⟨_, _, _, rfl, T.xc_Unreadable, T.nf_Unreadable_path, y1, by simp [fget, ofS_inj], ?_⟩
      exact hq.go
    | 8, _ =>
      cases hL; cases hf
      match ys, ly with
      | [y0, y1, y2], _ =>
      replace hq := Hide.mk hq
      rw [show ((8 : Nat) : Int) = 8 from rfl]
      walk_at "vn"
      refine ⟨_, _, _, rfl, T.xc_Refused, T.nf_Refused_side, y0, by simp [fget, ofS_inj], ?_⟩
      refine ⟨_, _, _, rfl, T.xc_Refused, T.nf_Refused_reason, y1, by simp [fget, ofS_inj], ?_⟩
      refine ⟨_, _, _, rfl, T.xc_Refused, T.nf_Refused_path, y2, by simp [fget, ofS_inj], ?_⟩
      exact hq.go
    | 9, _ =>
      cases hL; cases hf
      match ys, ly with
      | [y0], _ =>
      replace hq := Hide.mk hq
      rw [show ((9 : Nat) : Int) = 9 from rfl]
      walk_at "vn"
      refine ⟨_, _, _, rfl, T.xc_BadCondition, T.nf_BadCondition_value, y0, by simp [fget, ofS_inj], ?_⟩
      exact hq.go
    | 10, _ =>
      cases hL; cases hf
      match ys, ly with
      | [y0], _ =>
      replace hq := Hide.mk hq
      rw [show ((10 : Nat) : Int) = 10 from rfl]
      walk_at "vn"
      refine ⟨_, _, _, rfl, T.xc_BadLabel, T.nf_BadLabel_name, y0, by simp [fget, ofS_inj], ?_⟩
      exact hq.go
    | 11, _ =>
      cases hL; cases hf
      match ys, ly with
      | [y0], _ =>
      replace hq := Hide.mk hq
      rw [show ((11 : Nat) : Int) = 11 from rfl]
      walk_at "vn"
      refine ⟨_, _, _, rfl, T.xc_NoLabel, T.nf_NoLabel_label, y0, by simp [fget, ofS_inj], ?_⟩
      exact hq.go
    | 12, _ =>
      cases hL; cases hf
      match ys, ly with
      | [y0], _ =>
      replace hq := Hide.mk hq
      rw [show ((12 : Nat) : Int) = 12 from rfl]
      walk_at "vn"
      refine ⟨_, _, _, rfl, T.xc_BadStep, T.nf_BadStep_index, y0, by simp [fget, ofS_inj], ?_⟩
      exact hq.go
    | 13, _ =>
      cases hL; cases hf
      match ys, ly with
      | [y0, y1], _ =>
      replace hq := Hide.mk hq
      rw [show ((13 : Nat) : Int) = 13 from rfl]
      walk_at "vn"
      refine ⟨_, _, _, rfl, T.xc_WrongNumber, T.nf_WrongNumber_wanted, y0, by simp [fget, ofS_inj], ?_⟩
      refine ⟨_, _, _, rfl, T.xc_WrongNumber, T.nf_WrongNumber_given, y1, by simp [fget, ofS_inj], ?_⟩
      exact hq.go
    | 14, _ =>
      cases hL; cases hf
      match ys, ly with
      | [y0], _ =>
      replace hq := Hide.mk hq
      rw [show ((14 : Nat) : Int) = 14 from rfl]
      walk_at "vn"
      refine ⟨_, _, _, rfl, T.xc_TooMuch, T.nf_TooMuch_what, y0, by simp [fget, ofS_inj], ?_⟩
      exact hq.go
    | 15, _ =>
      cases hL; cases hf
      match ys, ly with
      | [y0], _ =>
      replace hq := Hide.mk hq
      rw [show ((15 : Nat) : Int) = 15 from rfl]
      walk_at "vn"
      refine ⟨_, _, _, rfl, T.xc_NoGuard, T.nf_NoGuard_name, y0, by simp [fget, ofS_inj], ?_⟩
      exact hq.go

/-! ### _law_more -/
abbrev N__law_more : List Str := ["_law_source_here", "_law_cells", "_law_at", "_law_cell", "_law_mixed"]
theorem sc__law_more : FnScope N__law_more ["_law_source_here"] (defScope s__law_more) := ⟨rfl, rfl, rfl, by decide +kernel, rfl, by decide +kernel, by decide +kernel⟩
def sp_more : TSp := fun xs S Q X => ∃ (a : Addr) (ns : List Int) (at_ seed room long : Int), xs = [.ref a] ∧ S a = some (srcT ns at_ 0 seed room long) ∧ 0 ≤ at_ ∧
  ∀ at' rest' seed', 0 ≤ at' → 0 ≤ rest' → Q .non (put S a (srcT ns at' rest' seed' room long))
theorem ok__law_more (T : Top K mg A) {k : Nat}   : CalleeT P w K mg base (k + 1) "_law_more" ["_law_source_here"] (sp_more) := by
  have nd := sc__law_more.nd
  refine Def.okT T.d__law_more sc__law_more (fun _ _ _ _ _ _ us hl => match us, hl with | [_], _ => rfl) (fun xs S Q X h => ?_) ?_ (fun f cdv AA outer s H E hr tk po => have hu := hu_of hr; (ss_cons (s_set (i := 1) nd rfl (Or.inl rfl) (e_ix (ix_op hr) o_ix (e_var 0) e_str (fun _ _ => rfl)))
      (ss_cons (s_set (i := 2) nd rfl (Or.inl rfl) (e_ix (ix_op hr) o_ix (e_var 0) e_str (fun _ _ => rfl)))
      (ss_cons (s_set (i := 3) nd rfl (Or.inl rfl) (e_var 2))
      (ss_cut (s_if (t_cmp op_lt o_lt (e_var 2) (e_callB len_op c_len (by rfl) T.b.b_len boot_len (a_cons (e_var 1) a_nil)) (nomark _)) (ss_one (s_set (i := 3) nd rfl (Or.inl rfl) (e_ix (ix_op hr) o_ix (e_var 1) (e_var 2) (fun _ _ => rfl)))) ss_nil)
      (ss_cons (s_set (i := 4) nd rfl (Or.inl rfl) (e_op KB.md_any o_mod (e_callTy KB.int_any c_int (by rfl) T.b.b_int boot_int (a_cons (e_op ad_op o_add (e_op ad_op o_add (e_op ml2_op o_mul2 (e_var 3) e_int) (e_op ml2_op o_mul2 (e_ix (ix_op hr) o_ix (e_var 0) e_str (fun _ _ => rfl)) e_int)) (e_var 2)) a_nil)) e_int))
      (ss_cons (s_dput hu (e_var 0) e_str (e_op ad_op o_add (e_var 2) e_int) rfl)
      (ss_cons (s_dput hu (e_var 0) e_str (e_var 4) rfl)
      (ss_cons (s_dput hu (e_var 0) e_str (e_op ad_op o_add e_int (e_op KB.md_any o_mod (e_callTy KB.int_any c_int (by rfl) T.b.b_int boot_int (a_cons (e_op ad_op o_add (e_op ml2_op o_mul2 (e_var 4) e_int) e_int) a_nil)) e_int)) rfl)
      (ss_one (s_if (t_cmp op_ge o_ge (e_callB call_abs c_abs (by rfl) T.b.b_abs boot_abs (a_cons (e_var 3) a_nil)) (e_op op_pow o_pow e_int e_int) (nomark _)) (ss_one (s_dput hu (e_var 0) e_str (e_callB call_abs c_abs (by rfl) T.b.b_abs boot_abs (a_cons (e_var 3) a_nil)) rfl)) ss_nil))))))))))) ?_
  · obtain ⟨a, ns, at_, seed, room, long, rfl, hS, h0, hq⟩ := h
    rfl
  · walk_at "mono"
  · intro xs S Q X cQ cX h
    obtain ⟨a, ns, at_, seed, room, long, rfl, hS, h0, hq⟩ := h
    simp only [KQ.startT, List.map_cons, List.map_nil, List.length_cons, List.length_nil, Nat.reduceAdd, Nat.reduceSub, List.replicate_succ, List.replicate_zero, List.cons_append, List.nil_append]
    walk_at "vc"
    intro p hp
    have key : ∀ c : Int, p [some (.ref a), some (.lst (ns.map Tr.int)), some (.int at_), some (.int c), none] S := fun c => by
      refine hp.go _ _ ?_
      have e1 := Int.emod_nonneg (c * 48271 + seed * 69621 + at_) (by decide : (2147483647 : Int) ≠ 0)
      have e2 := Int.emod_lt_of_pos (c * 48271 + seed * 69621 + at_) (by decide : (0 : Int) < 2147483647)
      have e3 := Int.emod_nonneg ((c * 48271 + seed * 69621 + at_) % 2147483647 * 16807 + 40692) (by decide : (2147483399 : Int) ≠ 0)
      walk_at "vc"
      split
      · exact hq _ _ _ (by omega) (by omega)
      · exact hq _ _ _ (by omega) (by omega)
    split
    · rename_i hl
      obtain ⟨n, en⟩ := int_at (ns := ns) h0 (by simpa using hl)
      exact ⟨_, en, key n⟩
    · exact key at_

/-! ### _law_draw -/
abbrev N__law_draw : List Str := ["_law_source_here", "_law_many", "_law_found"]
theorem sc__law_draw : FnScope N__law_draw ["_law_source_here", "_law_many"] (defScope s__law_draw) := ⟨rfl, rfl, rfl, by decide +kernel, rfl, by decide +kernel, by decide +kernel⟩
theorem ok__law_draw (T : Top K mg A) {k : Nat} (C__law_more : CalleeT P w K mg base k "_law_more" ["_law_source_here"] (sp_more))  : CalleeT P w K mg base (k + 1) "_law_draw" ["_law_source_here", "_law_many"] (sp_draw) := by
  have nd := sc__law_draw.nd
  refine Def.okT T.d__law_draw sc__law_draw (fun _ _ _ _ _ _ us hl => match us, hl with | [_, _], _ => rfl) (fun xs S Q X h => ?_) ?_ (fun f cdv AA outer s H E hr tk po => have hu := hu_of hr; (ss_cut (s_if (t_cmp (eq_op hr) o_eq (e_ix (ix_op hr) o_ix (e_var 0) e_str (fun _ _ => rfl)) e_int (nomark _)) (ss_one (s_expr (e_call C__law_more (hr.mono (by omega)) (by rfl) tk (a_cons (e_var 0) a_nil)))) ss_nil)
      (ss_cons (s_set (i := 2) nd rfl (Or.inl rfl) (e_op KB.md_any o_mod (e_callTy KB.int_any c_int (by rfl) T.b.b_int boot_int (a_cons (e_ix (ix_op hr) o_ix (e_var 0) e_str (fun _ _ => rfl)) a_nil)) (e_var 1)))
      (ss_cons (s_dput hu (e_var 0) e_str (e_op KB.fd_any o_fd (e_ix (ix_op hr) o_ix (e_var 0) e_str (fun _ _ => rfl)) (e_var 1)) rfl)
      (ss_one (s_ret (e_var 2))))))) ?_
  · obtain ⟨a, m, c, rfl, hS, ⟨ns, at_, rest, seed, room, long, rfl, h0, h1⟩, m0, m1, hq⟩ := h
    rfl
  · walk_at "mono"
  · intro xs S Q X cQ cX h
    obtain ⟨a, m, c, rfl, hS, ⟨ns, at_, rest, seed, room, long, rfl, h0, h1⟩, m0, m1, hq⟩ := h
    simp only [KQ.startT, List.map_cons, List.map_nil, List.length_cons, List.length_nil, Nat.reduceAdd, Nat.reduceSub, List.replicate_succ, List.replicate_zero, List.cons_append, List.nil_append]
    walk_at "vc"
    intro p hp
    have key : ∀ (S' : Sto) (at_ rest seed : Int), 0 ≤ at_ → 0 ≤ rest → S' a = some (srcT ns at_ rest seed room long) → (∀ c, put S' a c = put S a c) → p [some (.ref a), some (.int m), none] S' := fun S' at_ rest seed h0 h1 hS' hp' => by
      refine hp.go _ _ ?_
      have e1 := Int.emod_nonneg rest (by omega : m ≠ 0)
      have e2 := Int.emod_lt_of_pos rest m0
      have e3 := Int.ediv_nonneg h1 (Int.le_of_lt m0)
      have e4 := cdiv_ok (i := rest) m0 m1
      walk_at "vc"
      exact hq _ _ e1 e2 ⟨⟨ns, at_, rest / m, seed, room, long, rfl, h0, e3⟩, rfl⟩
    split
    · rename_i e
      subst e
      exact ⟨a, ns, at_, seed, room, long, rfl, hS, h0, fun at' rest' seed' g0 g1 => key _ at' rest' seed' g0 g1 put_same fun c => put_put⟩
    · exact key S at_ rest seed h0 h1 hS fun _ => rfl

/-! ### _law_key -/
abbrev N__law_key : List Str := ["_law_source_here", "_law_number"]
theorem sc__law_key : FnScope N__law_key ["_law_source_here"] (defScope s__law_key) := ⟨rfl, rfl, rfl, by decide +kernel, rfl, by decide +kernel, by decide +kernel⟩
def sp_key98 : TSp := fun xs S Q X => ∃ (a : Addr) (c : Tr), xs = [.ref a] ∧ S a = some c ∧ SrcOk c ∧ ∀ (k : Key) (c' : Tr), KOk k → SrcOk c' → Q (kT k) (put S a c')
theorem ok__law_key (T : Top K mg A) {k : Nat} (C__law_draw : CalleeT P w K mg base k "_law_draw" ["_law_source_here", "_law_many"] (sp_draw))  : CalleeT P w K mg base (k + 1) "_law_key" ["_law_source_here"] (sp_key98) := by
  have nd := sc__law_key.nd
  refine Def.okT T.d__law_key sc__law_key (fun _ _ _ _ _ _ us hl => match us, hl with | [_], _ => rfl) (fun xs S Q X h => ?_) ?_ (fun f cdv AA outer s H E hr tk po => have hu := hu_of hr; (ss_cons (s_set (i := 1) nd rfl (Or.inl rfl) (e_op op_sub o_sub (e_call C__law_draw (hr.mono (by omega)) (by rfl) tk (a_cons (e_var 0) (a_cons (e_op op_pow o_pow e_int e_int) a_nil))) e_int))
      (ss_one (s_ret (e_ix (ix_op hr) o_ix (e_lst (a_cons (e_var 1) (a_cons (e_callTy str4 c_str4 (by rfl) T.b.b_str boot_str (a_cons (e_var 1) a_nil)) (a_cons e_str (a_cons e_str a_nil))))) (e_call C__law_draw (hr.mono (by omega)) (by rfl) tk (a_cons (e_var 0) (a_cons e_int a_nil))) (fun _ _ => rfl)))))) ?_
  · obtain ⟨a, c, rfl, hS, hc, hq⟩ := h
    rfl
  · walk_at "mono"
  · intro xs S Q X cQ cX h
    obtain ⟨a, c, rfl, hS, hc, hq⟩ := h
    simp only [KQ.startT, List.map_cons, List.map_nil, List.length_cons, List.length_nil, Nat.reduceAdd, Nat.reduceSub, List.replicate_succ, List.replicate_zero, List.cons_append, List.nil_append]
    replace hq := Hide.mk hq
    walk_at "vn"
    refine draw_ok hS hc (by decide) (by decide) fun r c1 r0 r1 e1 => ?_
    have d1 := e1.ok
    have r1 : r < 1000000 := r1
    have nk : KOk (.inl (r - 500000)) := Nat.lt_of_le_of_lt (show (r - 500000).natAbs ≤ 1000000 by omega) (by decide)
    have ln := log_int nk
    walk_at "vn"
    refine draw_ok put_same d1 (by decide) (by decide) fun u c2 u0 u1 e2 => ?_
    have d2 := e2.ok
    rw [put_put]
    rcases (by omega : u = 0 ∨ u = 1 ∨ u = 2 ∨ u = 3) with rfl | rfl | rfl | rfl
    · exact ⟨_, ⟨0, rfl, rfl⟩, hq.go _ c2 nk d2⟩
    · exact ⟨_, ⟨1, rfl, rfl⟩, hq.go (.inr (intS (r - 500000))) c2 (intS_ok nk) d2⟩
    · exact ⟨_, ⟨2, rfl, rfl⟩, hq.go (.inr "") c2 ⟨pr_lit (s := "") (by decide), by decide⟩ d2⟩
    · exact ⟨_, ⟨3, rfl, rfl⟩, hq.go (.inr "a") c2 ⟨pr_lit (s := "a") (by decide), by decide⟩ d2⟩

/-! ### _law_path -/
abbrev N__law_path : List Str := ["_law_source_here", "_law_k"]
theorem sc__law_path : FnScope N__law_path ["_law_source_here"] (defScope s__law_path) := ⟨rfl, rfl, rfl, by decide +kernel, rfl, by decide +kernel, by decide +kernel⟩
def sp_path98 : TSp := fun xs S Q X => ∃ (a : Addr) (c : Tr), xs = [.ref a] ∧ S a = some c ∧ SrcOk c ∧ ∀ (ks : List Key) (c' : Tr), ks.length ≤ 3 → (∀ k ∈ ks, KOk k) → SrcOk c' → Q (.tup (ks.map kT)) (put S a c')
theorem ok__law_path (T : Top K mg A) {k : Nat} (C__law_draw : CalleeT P w K mg base k "_law_draw" ["_law_source_here", "_law_many"] (sp_draw)) (C__law_key : CalleeT P w K mg base k "_law_key" ["_law_source_here"] (sp_key98))  : CalleeT P w K mg base (k + 1) "_law_path" ["_law_source_here"] (sp_path98) := by
  have nd := sc__law_path.nd
  refine Def.okT T.d__law_path sc__law_path (fun _ _ _ _ _ _ us hl => match us, hl with | [_], _ => rfl) (fun xs S Q X h => ?_) ?_ (fun f cdv AA outer s H E hr tk po => have hu := hu_of hr; (ss_one (s_ret (e_callTy call_tuple_of c_tuple (by rfl) T.b.b_tuple boot_tuple (a_cons (e_lc (own := [("_law_k", 1)]) (.nm 1) rfl nd (i_rng1 (by rfl) T.b.b_range (a_cons (e_call C__law_draw (hr.mono (by omega)) (by rfl) tk (a_cons (e_var 0) (a_cons e_int a_nil))) a_nil)) (blkOk_by (own := [("_law_k", 1)]) (N := N__law_path) (sc := defScope s__law_path) (by decide +kernel)) (by decide) (fun _ _ _ _ _ => (pg_name (i := 1) nd rfl (Or.inl rfl) (hf := Or.inr rfl))) (fun _ _ _ _ _ => ts_nil) (fun _ _ _ _ _ => (e_call C__law_key (hr.mono (by omega)) (by rfl) takes0N (a_cons (e_var 0) a_nil)))) a_nil))))) ?_
  · obtain ⟨a, c, rfl, hS, hc, hq⟩ := h
    rfl
  · walk_at "mono"
  · intro xs S Q X cQ cX h
    obtain ⟨a, c, rfl, hS, hc, hq⟩ := h
    simp only [KQ.startT, List.map_cons, List.map_nil, List.length_cons, List.length_nil, Nat.reduceAdd, Nat.reduceSub, List.replicate_succ, List.replicate_zero, List.cons_append, List.nil_append]
    replace hq := Hide.mk hq
    walk_at "vn"
    refine draw_ok hS hc (by decide) (by decide) fun r c1 r0 r1 e1 => ?_
    have d1 := e1.ok
    obtain ⟨t, rfl⟩ : ∃ t : Nat, r = (t : Int) := ⟨r.toNat, by omega⟩
    refine ⟨_, rfl, by omega, by omega, ?_⟩
    rw [show ((t : Nat) : Int).toNat = t from rfl]
    refine lc_inv _ (fun i acc S2 => ∃ (ks : List Key) (c2 : Tr), acc = ks.map kT ∧ ks.length = i ∧ (∀ k ∈ ks, KOk k) ∧ S2 = put S a c2 ∧ SrcOk c2) ?_ ?_ ⟨[], c1, rfl, rfl, (fun _ h => nomatch h), rfl, d1⟩
    · rintro i x acc S2 N hx ⟨ks, c2, rfl, lk, ok, rfl, d2⟩ hN
      obtain ⟨rfl, hi⟩ := rng_at hx
      clear hx
      replace hN := Hide.mk hN
      walk_at "vn"
      refine ⟨a, c2, rfl, put_same, d2, fun k c3 hk d3 => ?_⟩
      rw [put_put]
      refine ⟨szn (by omega), hN.go _ _ ⟨ks ++ [k], c3, by rw [List.map_append]; rfl, by rw [List.length_append, lk]; rfl, fun j hj => ?_, rfl, d3⟩⟩
      rcases List.mem_append.mp hj with hj | hj
      · exact ok j hj
      · rw [List.mem_singleton.mp hj]; exact hk
    · rintro acc S2 ⟨ks, c2, rfl, lk, ok, rfl, d2⟩
      rw [rngT_len] at lk
      have hq := hq.go ks c2 (by omega) ok d2
      replace hq := Hide.mk hq
      walk_at "vn"
      all_goals exact hq.go

/-! ### _law_text -/
abbrev N__law_text : List Str := ["_law_source_here", "_law_k"]
theorem sc__law_text : FnScope N__law_text ["_law_source_here"] (defScope s__law_text) := ⟨rfl, rfl, rfl, by decide +kernel, rfl, by decide +kernel, by decide +kernel⟩
def sp_text98 : TSp := fun xs S Q X => ∃ (a : Addr) (c : Tr), xs = [.ref a] ∧ S a = some c ∧ SrcOk c ∧ ∀ (z : Str) (c' : Tr), Pr z → z.length ≤ 10 → SrcOk c' → Q (.str z) (put S a c')
theorem ok__law_text (T : Top K mg A) {k : Nat} (C__law_draw : CalleeT P w K mg base k "_law_draw" ["_law_source_here", "_law_many"] (sp_draw))  : CalleeT P w K mg base (k + 1) "_law_text" ["_law_source_here"] (sp_text98) := by
  have nd := sc__law_text.nd
  refine Def.okT T.d__law_text sc__law_text (fun _ _ _ _ _ _ us hl => match us, hl with | [_], _ => rfl) (fun xs S Q X h => ?_) ?_ (fun f cdv AA outer s H E hr tk po => have hu := hu_of hr; (ss_one (s_ret (e_mt PySem.F.plainAttrs_str PySem.F.slot_str_join PySem.F.type_str_join mt_join m_join e_str (a_cons (e_lc (own := [("_law_k", 1)]) (.nm 1) rfl nd (i_rng1 (by rfl) T.b.b_range (a_cons (e_call C__law_draw (hr.mono (by omega)) (by rfl) tk (a_cons (e_var 0) (a_cons e_int a_nil))) a_nil)) (blkOk_by (own := [("_law_k", 1)]) (N := N__law_text) (sc := defScope s__law_text) (by decide +kernel)) (by decide) (fun _ _ _ _ _ => (pg_name (i := 1) nd rfl (Or.inl rfl) (hf := Or.inr rfl))) (fun _ _ _ _ _ => ts_nil) (fun _ _ _ _ _ => (e_ix (ix_op hr) o_ix e_str (e_call C__law_draw (hr.mono (by omega)) (by rfl) takes0N (a_cons (e_var 0) (a_cons e_int a_nil))) (fun _ _ => rfl)))) a_nil) (fun ho ha => pe_bm PySem.F.plainAttrs_str PySem.F.slot_str_join PySem.F.type_str_join mt_join ho ha))))) ?_
  · obtain ⟨a, c, rfl, hS, hc, hq⟩ := h
    rfl
  · walk_at "mono"
  · intro xs S Q X cQ cX h
    obtain ⟨a, c, rfl, hS, hc, hq⟩ := h
    simp only [KQ.startT, List.map_cons, List.map_nil, List.length_cons, List.length_nil, Nat.reduceAdd, Nat.reduceSub, List.replicate_succ, List.replicate_zero, List.cons_append, List.nil_append]
    replace hq := Hide.mk hq
    walk_at "vn"
    refine draw_ok hS hc (by decide) (by decide) fun r c1 r0 r1 e1 => ?_
    have d1 := e1.ok
    obtain ⟨t, rfl⟩ : ∃ t : Nat, r = (t : Int) := ⟨r.toNat, by omega⟩
    refine ⟨_, rfl, by omega, by omega, ?_⟩
    rw [show ((t : Nat) : Int).toNat = t from rfl]
    refine lc_inv _ (fun i acc S2 => ∃ (zs : List Str) (c2 : Tr), acc = zs.map .str ∧ zs.length = i ∧ (∀ z ∈ zs, Pr z ∧ z.length = 1) ∧ S2 = put S a c2 ∧ SrcOk c2) ?_ ?_ ⟨[], c1, rfl, rfl, (fun _ h => nomatch h), rfl, d1⟩
    · rintro i x acc S2 N hx ⟨zs, c2, rfl, lz, oz, rfl, d2⟩ hN
      obtain ⟨rfl, hi⟩ := rng_at hx
      clear hx
      replace hN := Hide.mk hN
      walk_at "vn"
      refine draw_ok put_same d2 (by decide) (by decide) fun u c3 u0 u1 e3 => ?_
      rw [put_put]
      have fin : ∀ ch, 32 ≤ ch → ch < 127 → i < sizeLine ∧ N (zs.map .str ++ [.str ⟨#[ch]⟩]) (put S a c3) := fun ch h0 h1 => ⟨szn (by omega), hN.go _ _ ⟨zs ++ [⟨#[ch]⟩], c3, by rw [List.map_append]; rfl, by rw [List.length_append, lz]; rfl, fun z h => (by
        rcases List.mem_append.mp h with h | h
        · exact oz z h
        · rw [List.mem_singleton.mp h]; exact ⟨pr_one ⟨h0, h1⟩, rfl⟩), rfl, e3.ok⟩⟩
      replace fin := Hide.mk fin
      clear hN
      walk_at "vn"
      refine ⟨by decide +kernel, ?_⟩
      exact lit_ex (n := 6) (by decide +kernel) (by decide +kernel) u0 u1 fun ch h1 h2 => fin.go ch h1 h2
    · rintro acc S2 ⟨zs, c2, rfl, lz, oz, rfl, d2⟩
      rw [rngT_len] at lz
      walk_at "vn"
      have lo := len_ones fun z h => (oz z h).2
      refine ⟨zs, rfl, ?_, hq.go _ _ (join_pr fun z h => (oz z h).1) ?_ d2⟩
      · rw [lo, lz]
        show t + t * 0 ≤ 16777216
        omega
      · rw [join_len, lo]
        omega

/-! ### _law_given -/
abbrev N__law_given : List Str := ["_law_source_here", "_law_which", "_law_numbers"]
theorem sc__law_given : FnScope N__law_given ["_law_source_here", "_law_which"] (defScope s__law_given) := ⟨rfl, rfl, rfl, by decide +kernel, rfl, by decide +kernel, by decide +kernel⟩
inductive GV98 : Tr → Prop
  | non : GV98 .non
  | tru : GV98 (.bl true)
  | two : GV98 (.tup [.int 1, .int 2])
  | key {k : Key} (h : KOk k) : GV98 (kT k)
  | num {n : Int} (h : 0 ≤ n) (g : n < 1000000) : GV98 (.int n)
  | txt {z : Str} (h : Pr z) (g : z.length ≤ 10) : GV98 (.str z)
  | path {ks : List Key} (h : ∀ k ∈ ks, KOk k) (l : ks.length ≤ 3) : GV98 (.tup (ks.map kT))
def sp_given98 : TSp := fun xs S Q X => ∃ (p : Addr) (c : Tr) (i : Nat), xs = [.ref p, .int i] ∧ S p = some c ∧ SrcOk c ∧ i < 16 ∧ ∀ (x y z c' : Tr), GV98 x → GV98 y → GV98 z → SrcOk c' → Q (.lst [x, y, z]) (put S p c')
theorem ok__law_given (T : Top K mg A) {k : Nat} (C__law_draw : CalleeT P w K mg base k "_law_draw" ["_law_source_here", "_law_many"] (sp_draw)) (C__law_key : CalleeT P w K mg base k "_law_key" ["_law_source_here"] (sp_key98)) (C__law_path : CalleeT P w K mg base k "_law_path" ["_law_source_here"] (sp_path98)) (C__law_text : CalleeT P w K mg base k "_law_text" ["_law_source_here"] (sp_text98))  : CalleeT P w K mg base (k + 1) "_law_given" ["_law_source_here", "_law_which"] (sp_given98) := by
  have nd := sc__law_given.nd
  refine Def.okT T.d__law_given sc__law_given (fun _ _ _ _ _ _ us hl => match us, hl with | [_, _], _ => rfl) (fun xs S Q X h => ?_) ?_ (fun f cdv AA outer s H E hr tk po => have hu := hu_of hr; (ss_cons (s_set (i := 2) nd rfl (Or.inl rfl) (e_lst (a_cons (e_call C__law_draw (hr.mono (by omega)) (by rfl) tk (a_cons (e_var 0) (a_cons (e_op op_pow o_pow e_int e_int) a_nil))) (a_cons (e_call C__law_draw (hr.mono (by omega)) (by rfl) tk (a_cons (e_var 0) (a_cons (e_op op_pow o_pow e_int e_int) a_nil))) a_nil))))
      (ss_cons (s_if (t_cmp (eq_op hr) o_eq (e_var 1) e_int (nomark _)) (ss_one (s_ret (e_lst (a_cons (e_ix (ix_op hr) o_ix (e_lst (a_cons e_non (a_cons e_bl (a_cons (e_tup (a_cons e_int (a_cons e_int a_nil))) (a_cons (e_call C__law_key (hr.mono (by omega)) (by rfl) tk (a_cons (e_var 0) a_nil)) a_nil))))) (e_call C__law_draw (hr.mono (by omega)) (by rfl) tk (a_cons (e_var 0) (a_cons e_int a_nil))) (fun _ _ => rfl)) (a_cons e_int (a_cons e_int a_nil)))))) ss_nil)
      (ss_cons (s_if (t_cmp op_lt o_lt (e_var 1) e_int (nomark _)) (ss_one (s_ret (e_lst (a_cons (e_call C__law_key (hr.mono (by omega)) (by rfl) tk (a_cons (e_var 0) a_nil)) (a_cons e_int (a_cons e_int a_nil)))))) ss_nil)
      (ss_cons (s_if (t_cmp (in_op hr) o_in (e_var 1) (e_lst (a_cons e_int (a_cons e_int (a_cons e_int (a_cons e_int a_nil))))) (by with_unfolding_all rfl)) (ss_one (s_ret (e_op ad_op o_add (e_var 2) (e_lst (a_cons e_int a_nil))))) ss_nil)
      (ss_cons (s_if (TPW.pt (w_or (t_cmp (eq_op hr) o_eq (e_var 1) e_int (nomark _)) (w_or1 (t_cmp (eq_op hr) o_eq (e_var 1) e_int (nomark _))))) (ss_one (s_ret (e_lst (a_cons (e_call C__law_text (hr.mono (by omega)) (by rfl) tk (a_cons (e_var 0) a_nil)) (a_cons (e_call C__law_path (hr.mono (by omega)) (by rfl) tk (a_cons (e_var 0) a_nil)) (a_cons e_int a_nil)))))) ss_nil)
      (ss_cons (s_if (t_cmp (eq_op hr) o_eq (e_var 1) e_int (nomark _)) (ss_one (s_ret (e_lst (a_cons (e_call C__law_text (hr.mono (by omega)) (by rfl) tk (a_cons (e_var 0) a_nil)) (a_cons (e_call C__law_text (hr.mono (by omega)) (by rfl) tk (a_cons (e_var 0) a_nil)) (a_cons (e_call C__law_path (hr.mono (by omega)) (by rfl) tk (a_cons (e_var 0) a_nil)) a_nil)))))) ss_nil)
      (ss_cons (s_if (TPW.pt (w_and (t_cmp (eq_op hr) o_eq (e_var 1) e_int (nomark _)) (w_and1 (t_cmp (eq_op hr) o_eq (e_call C__law_draw (hr.mono (by omega)) (by rfl) tk (a_cons (e_var 0) (a_cons e_int a_nil))) e_int (nomark _))))) (ss_one (s_ret (e_op ad_op o_add (e_var 2) (e_lst (a_cons e_int a_nil))))) ss_nil)
      (ss_one (s_ret (e_lst (a_cons (e_call C__law_text (hr.mono (by omega)) (by rfl) tk (a_cons (e_var 0) a_nil)) (a_cons (e_call C__law_text (hr.mono (by omega)) (by rfl) tk (a_cons (e_var 0) a_nil)) (a_cons e_int a_nil)))))))))))))) ?_
  · obtain ⟨p, c, i, rfl, hS, hc, hi, hq⟩ := h
    rfl
  · walk_at "mono"
  · intro xs S Q X cQ cX h
    obtain ⟨p, c, i, rfl, hS, hc, hi, hq⟩ := h
    simp only [KQ.startT, List.map_cons, List.map_nil, List.length_cons, List.length_nil, Nat.reduceAdd, Nat.reduceSub, List.replicate_succ, List.replicate_zero, List.cons_append, List.nil_append]
    replace hq := Hide.mk hq
    have g0 : GV98 (.int 0) := .num (by decide) (by decide)
    walk_at "vn"
    refine draw_ok hS hc (by decide) (by decide) fun r c1 r0 r1 e1 => ?_
    refine draw_ok put_same e1.ok (by decide) (by decide) fun u c2 u0 u1 e2 => ?_
    have d2 := e2.ok
    have r1 : r < 1000000 := r1
    have u1 : u < 1000000 := u1
    rw [put_put]
    have gr : GV98 (.int r) := .num r0 r1
    have gu : GV98 (.int u) := .num u0 u1
    have tx : ∀ (c : Tr) (Q' : QV) (X' : QX), SrcOk c → (∀ z c', GV98 (.str z) → SrcOk c' → Q' (.str z) (put S p c')) → sp_text98 [.ref p] (put S p c) Q' X' := fun c Q' X' d h => ⟨p, c, rfl, put_same, d, fun z c' pz lz d' => by rw [put_put]; exact h z c' (.txt pz lz) d'⟩
    have pa : ∀ (c : Tr) (Q' : QV) (X' : QX), SrcOk c → (∀ x c', GV98 x → SrcOk c' → Q' x (put S p c')) → sp_path98 [.ref p] (put S p c) Q' X' := fun c Q' X' d h => ⟨p, c, rfl, put_same, d, fun ks c' lk ok d' => by rw [put_put]; exact h _ c' (.path ok lk) d'⟩
    have ke : ∀ (c : Tr) (Q' : QV) (X' : QX), SrcOk c → (∀ x c', GV98 x → SrcOk c' → Q' x (put S p c')) → sp_key98 [.ref p] (put S p c) Q' X' := fun c Q' X' d h => ⟨p, c, rfl, put_same, d, fun k c' ok d' => by rw [put_put]; exact h _ c' (.key ok) d'⟩
    split
    · refine ke _ _ _ d2 fun x c3 gx d3 => ?_
      refine draw_ok put_same d3 (by decide) (by decide) fun v c4 v0 v1 e4 => ?_
      rw [put_put]
      rcases (by omega : v = 0 ∨ v = 1 ∨ v = 2 ∨ v = 3) with rfl | rfl | rfl | rfl
      · exact ⟨_, ⟨0, rfl, rfl⟩, hq.go _ _ _ c4 .non g0 g0 e4.ok⟩
      · exact ⟨_, ⟨1, rfl, rfl⟩, hq.go _ _ _ c4 .tru g0 g0 e4.ok⟩
      · exact ⟨_, ⟨2, rfl, rfl⟩, hq.go _ _ _ c4 .two g0 g0 e4.ok⟩
      · exact ⟨_, ⟨3, rfl, rfl⟩, hq.go _ _ _ c4 gx g0 g0 e4.ok⟩
    split
    · exact ke _ _ _ d2 fun x c3 gx d3 => hq.go _ _ _ c3 gx g0 g0 d3
    refine ⟨_, rfl, ?_⟩
    split
    · exact ⟨(show 2 + 1 ≤ sizeLine by decide), hq.go _ _ _ c2 gr gu g0 d2⟩
    split
    · exact tx _ _ _ d2 fun z c3 gz d3 => pa _ _ _ d3 fun y c4 gy d4 => hq.go _ _ _ c4 gz gy g0 d4
    split
    · exact tx _ _ _ d2 fun z c3 gz d3 => pa _ _ _ d3 fun y c4 gy d4 => hq.go _ _ _ c4 gz gy g0 d4
    split
    · exact tx _ _ _ d2 fun z c3 gz d3 => tx _ _ _ d3 fun y c4 gy d4 => pa _ _ _ d4 fun x c5 gx d5 => hq.go _ _ _ c5 gz gy gx d5
    have last : ∀ (c : Tr) (X' X2 : QX), SrcOk c → sp_text98 [.ref p] (put S p c) (fun x S1 => sp_text98 [.ref p] S1 (fun x_1 S1 => Q (.lst [x, x_1, .int 0]) S1) X2) X' := fun c X' X2 d => tx _ _ _ d fun z c3 gz d3 => tx _ _ _ d3 fun y c4 gy d4 => hq.go _ _ _ c4 gz gy g0 d4
    split
    · refine draw_ok put_same d2 (by decide) (by decide) fun v c3 v0 v1 e3 => ?_
      rw [put_put]
      have d3 := e3.ok
      by_cases hv : v = 0
      · subst hv
        exact ⟨.bl true, .inl ⟨true, rfl, rfl⟩, true, rfl, by rw [if_pos rfl]; exact ⟨(show 2 + 1 ≤ sizeLine by decide), hq.go _ _ _ c3 gr gu g0 d3⟩⟩
      · exact ⟨.bl false, .inl ⟨false, by show some (decide (v = 0)) = some false; rw [decide_eq_false hv], rfl⟩, false, rfl, by rw [if_neg (by decide)]; exact last _ _ _ d3⟩
    · exact last _ _ _ d2

/-! ### _law_like -/
abbrev N__law_like : List Str := ["_law_one", "_law_two"]
theorem sc__law_like : FnScope N__law_like ["_law_one", "_law_two"] (defScope s__law_like) := ⟨rfl, rfl, rfl, by decide +kernel, rfl, by decide +kernel, by decide +kernel⟩
theorem kTs_D : ∀ {ks : List Key}, (∀ k ∈ ks, KOk k) → ∃ ds, toDs (ks.map kT) = some ds ∧ PyData.canLayAll0 ds = true ∧ PyData.depthAll ds ≤ 1
  | [], _ => ⟨[], rfl, rfl, by decide⟩
  | k :: ks, h => by
    obtain ⟨ds, e, l1, l2⟩ := kTs_D (ks := ks) fun j hj => h j (List.mem_cons_of_mem _ hj)
    have kk : ∃ c, toD (kT k) = some c ∧ PyData.canLay0 c = true ∧ PyData.depth c ≤ 1 := by
      cases k with
      | inl n => exact ⟨.int n, rfl, rfl, by simp [PyData.depth]⟩
      | inr z => exact ⟨.str z, rfl, KB.pr_strOk (h (.inr z) (List.mem_cons_self ..)).1, by simp [PyData.depth]⟩
    obtain ⟨c, e1, c1, c2⟩ := kk
    refine ⟨c :: ds, by rw [List.map_cons]; simp only [toDs, e, e1], ?_, ?_⟩
    · show (PyData.canLay0 c && PyData.canLayAll0 ds) = true
      rw [c1, l1]; rfl
    · show max (PyData.depth c) (PyData.depthAll ds) ≤ 1
      omega
def sp_like98 : TSp := fun xs S Q X => ∃ x : Tr, xs = [x, x] ∧ GV98 x ∧ Q (.bl true) S
theorem ok__law_like (T : Top K mg A) {k : Nat}   : CalleeT P w K mg base (k + 1) "_law_like" ["_law_one", "_law_two"] (sp_like98) := by
  have nd := sc__law_like.nd
  refine Def.okT T.d__law_like sc__law_like (fun _ _ _ _ _ _ us hl => match us, hl with | [_, _], _ => rfl) (fun xs S Q X h => ?_) ?_ (fun f cdv AA outer s H E hr tk po => have hu := hu_of hr; (ss_cons (s_if (TPW.pt (w_or (t_val (e_callB (g := gIsi K) call_isi c_isi (by rfl) T.b.b_isinstance boot_isinstance (a_cons (e_var 0) (a_cons (e_ty (by rfl) T.b.b_bool boot_bool) a_nil)))) (w_or1 (t_val (e_callB (g := gIsi K) call_isi c_isi (by rfl) T.b.b_isinstance boot_isinstance (a_cons (e_var 1) (a_cons (e_ty (by rfl) T.b.b_bool boot_bool) a_nil))))))) (ss_one (s_ret (e_and (e_callB (g := gIsi K) call_isi c_isi (by rfl) T.b.b_isinstance boot_isinstance (a_cons (e_var 0) (a_cons (e_ty (by rfl) T.b.b_bool boot_bool) a_nil))) (e_and (e_callB (g := gIsi K) call_isi c_isi (by rfl) T.b.b_isinstance boot_isinstance (a_cons (e_var 1) (a_cons (e_ty (by rfl) T.b.b_bool boot_bool) a_nil))) (e_one (e_cmp (eq_op hr) o_eq (e_var 0) (e_var 1) (nomark _))))))) ss_nil)
      (ss_one (s_ret (e_cmp (eq_op hr) o_eq (e_var 0) (e_var 1) (nomark _)))))) ?_
  · obtain ⟨x, rfl, hx, hq⟩ := h
    rfl
  · walk_at "mono"
  · intro xs S Q X cQ cX h
    obtain ⟨x, rfl, hx, hq⟩ := h
    simp only [KQ.startT, List.map_cons, List.map_nil, List.length_cons, List.length_nil, Nat.reduceAdd, Nat.reduceSub, List.replicate_succ, List.replicate_zero, List.cons_append, List.nil_append]
    replace hq := Hide.mk hq
    have go : ∀ d, eqF x x = none → toD x = some d → PyData.canLay0 d = true → PyData.depth d ≤ 64 → gEq false x x (.bl true) := fun d h e l dp => self_eq (n := false) e l dp h
    cases hx with
    | non => walk_at "vn"; all_goals exact hq.go
    | tru => walk_at "vn"; all_goals exact hq.go
    | two =>
      have g := go (.tuple [.int 1, .int 2]) rfl rfl (by decide +kernel) (by decide +kernel)
      clear go
      walk_at "vn"
      exact ⟨_, g, hq.go⟩
    | @key k h =>
      clear go
      cases k <;> (simp only [kT]; walk_at "vn"; all_goals exact hq.go)
    | num h g => clear go; walk_at "vn"; all_goals exact hq.go
    | txt h g => clear go; walk_at "vn"; all_goals exact hq.go
    | @path ks h l =>
      obtain ⟨ds, e, l1, l2⟩ := kTs_D h
      have g := go (.tuple ds) rfl (by simp only [toD, e]; rfl) l1 (by show PyData.depthAll ds + 1 ≤ 64; omega)
      clear go
      walk_at "vn"
      exact ⟨_, g, hq.go⟩

/-! ### _law_made -/
abbrev N__law_made : List Str := ["_law_which", "_law_a", "_law_b", "_law_c"]
theorem sc__law_made : FnScope N__law_made ["_law_which", "_law_a", "_law_b", "_law_c"] (defScope s__law_made) := ⟨rfl, rfl, rfl, by decide +kernel, rfl, by decide +kernel, by decide +kernel⟩
def sp_made98 (K : PySem.W.Frag) (L : List Addr) : TSp := fun xs S Q X => ∃ (i : Nat) (C : Addr) (fs : List Str) (x y z : Tr), xs = [.int i, x, y, z] ∧ L[i]? = some C ∧ fld98[i]? = some fs ∧ Q (.tup [xvT K C fs ([x, y, z].take fs.length), .int fs.length]) S
theorem ok__law_made (T : Top K mg A) {k : Nat} (X_BadCondition : ExcT P w K mg base k "BadCondition" A.BadCondition ["value"]) (X_BadKey : ExcT P w K mg base k "BadKey" A.BadKey ["key"]) (X_BadLabel : ExcT P w K mg base k "BadLabel" A.BadLabel ["name"]) (X_BadOption : ExcT P w K mg base k "BadOption" A.BadOption ["name", "value"]) (X_BadStep : ExcT P w K mg base k "BadStep" A.BadStep ["index"]) (X_DoubleKey : ExcT P w K mg base k "DoubleKey" A.DoubleKey ["key"]) (X_NoGuard : ExcT P w K mg base k "NoGuard" A.NoGuard ["name"]) (X_NoKey : ExcT P w K mg base k "NoKey" A.NoKey ["key"]) (X_NoLabel : ExcT P w K mg base k "NoLabel" A.NoLabel ["label"]) (X_NotText : ExcT P w K mg base k "NotText" A.NotText ["position"]) (X_Refused : ExcT P w K mg base k "Refused" A.Refused ["side", "reason", "path"]) (X_TooDeep : ExcT P w K mg base k "TooDeep" A.TooDeep ["position"]) (X_TooMuch : ExcT P w K mg base k "TooMuch" A.TooMuch ["what"]) (X_Unreadable : ExcT P w K mg base k "Unreadable" A.Unreadable ["reason", "path"]) (X_Unwritable : ExcT P w K mg base k "Unwritable" A.Unwritable ["reason", "path"]) (X_WrongNumber : ExcT P w K mg base k "WrongNumber" A.WrongNumber ["wanted", "given"])  : CalleeT P w K mg base (k + 1 + 1) "_law_made" ["_law_which", "_law_a", "_law_b", "_law_c"] (sp_made98 K [A.BadKey, A.DoubleKey, A.NoKey, A.NotText, A.TooDeep, A.BadOption, A.Unwritable, A.Unreadable, A.Refused, A.BadCondition, A.BadLabel, A.NoLabel, A.BadStep, A.WrongNumber, A.TooMuch, A.NoGuard]) := by
  have nd := sc__law_made.nd
  refine Def.okT T.d__law_made sc__law_made (fun _ _ _ _ _ _ us hl => match us, hl with | [_, _, _, _], _ => rfl) (fun xs S Q X h => ?_) ?_ (fun f cdv AA outer s H E hr tk po => have hu := hu_of hr; (ss_cons (s_if (t_cmp (eq_op hr) o_eq (e_var 0) e_int (nomark _)) (ss_one (s_ret (e_tup (a_cons (e_mkX X_BadKey (K := K) rfl (hr.mono (by omega)) (by rfl) (a_cons (e_var 1) a_nil)) (a_cons e_int a_nil))))) ss_nil)
      (ss_cons (s_if (t_cmp (eq_op hr) o_eq (e_var 0) e_int (nomark _)) (ss_one (s_ret (e_tup (a_cons (e_mkX X_DoubleKey (K := K) rfl (hr.mono (by omega)) (by rfl) (a_cons (e_var 1) a_nil)) (a_cons e_int a_nil))))) ss_nil)
      (ss_cons (s_if (t_cmp (eq_op hr) o_eq (e_var 0) e_int (nomark _)) (ss_one (s_ret (e_tup (a_cons (e_mkX X_NoKey (K := K) rfl (hr.mono (by omega)) (by rfl) (a_cons (e_var 1) a_nil)) (a_cons e_int a_nil))))) ss_nil)
      (ss_cons (s_if (t_cmp (eq_op hr) o_eq (e_var 0) e_int (nomark _)) (ss_one (s_ret (e_tup (a_cons (e_mkX X_NotText (K := K) rfl (hr.mono (by omega)) (by rfl) (a_cons (e_var 1) a_nil)) (a_cons e_int a_nil))))) ss_nil)
      (ss_cons (s_if (t_cmp (eq_op hr) o_eq (e_var 0) e_int (nomark _)) (ss_one (s_ret (e_tup (a_cons (e_mkX X_TooDeep (K := K) rfl (hr.mono (by omega)) (by rfl) (a_cons (e_var 1) a_nil)) (a_cons e_int a_nil))))) ss_nil)
      (ss_cons (s_if (t_cmp (eq_op hr) o_eq (e_var 0) e_int (nomark _)) (ss_one (s_ret (e_tup (a_cons (e_mkX X_BadOption (K := K) rfl (hr.mono (by omega)) (by rfl) (a_cons (e_var 1) (a_cons (e_var 2) a_nil))) (a_cons e_int a_nil))))) ss_nil)
      (ss_cons (s_if (t_cmp (eq_op hr) o_eq (e_var 0) e_int (nomark _)) (ss_one (s_ret (e_tup (a_cons (e_mkX X_Unwritable (K := K) rfl (hr.mono (by omega)) (by rfl) (a_cons (e_var 1) (a_cons (e_var 2) a_nil))) (a_cons e_int a_nil))))) ss_nil)
      (ss_cons (s_if (t_cmp (eq_op hr) o_eq (e_var 0) e_int (nomark _)) (ss_one (s_ret (e_tup (a_cons (e_mkX X_Unreadable (K := K) rfl (hr.mono (by omega)) (by rfl) (a_cons (e_var 1) (a_cons (e_var 2) a_nil))) (a_cons e_int a_nil))))) ss_nil)
      (ss_cons (s_if (t_cmp (eq_op hr) o_eq (e_var 0) e_int (nomark _)) (ss_one (s_ret (e_tup (a_cons (e_mkX X_Refused (K := K) rfl (hr.mono (by omega)) (by rfl) (a_cons (e_var 1) (a_cons (e_var 2) (a_cons (e_var 3) a_nil)))) (a_cons e_int a_nil))))) ss_nil)
      (ss_cons (s_if (t_cmp (eq_op hr) o_eq (e_var 0) e_int (nomark _)) (ss_one (s_ret (e_tup (a_cons (e_mkX X_BadCondition (K := K) rfl (hr.mono (by omega)) (by rfl) (a_cons (e_var 1) a_nil)) (a_cons e_int a_nil))))) ss_nil)
      (ss_cons (s_if (t_cmp (eq_op hr) o_eq (e_var 0) e_int (nomark _)) (ss_one (s_ret (e_tup (a_cons (e_mkX X_BadLabel (K := K) rfl (hr.mono (by omega)) (by rfl) (a_cons (e_var 1) a_nil)) (a_cons e_int a_nil))))) ss_nil)
      (ss_cons (s_if (t_cmp (eq_op hr) o_eq (e_var 0) e_int (nomark _)) (ss_one (s_ret (e_tup (a_cons (e_mkX X_NoLabel (K := K) rfl (hr.mono (by omega)) (by rfl) (a_cons (e_var 1) a_nil)) (a_cons e_int a_nil))))) ss_nil)
      (ss_cons (s_if (t_cmp (eq_op hr) o_eq (e_var 0) e_int (nomark _)) (ss_one (s_ret (e_tup (a_cons (e_mkX X_BadStep (K := K) rfl (hr.mono (by omega)) (by rfl) (a_cons (e_var 1) a_nil)) (a_cons e_int a_nil))))) ss_nil)
      (ss_cons (s_if (t_cmp (eq_op hr) o_eq (e_var 0) e_int (nomark _)) (ss_one (s_ret (e_tup (a_cons (e_mkX X_WrongNumber (K := K) rfl (hr.mono (by omega)) (by rfl) (a_cons (e_var 1) (a_cons (e_var 2) a_nil))) (a_cons e_int a_nil))))) ss_nil)
      (ss_cons (s_if (t_cmp (eq_op hr) o_eq (e_var 0) e_int (nomark _)) (ss_one (s_ret (e_tup (a_cons (e_mkX X_TooMuch (K := K) rfl (hr.mono (by omega)) (by rfl) (a_cons (e_var 1) a_nil)) (a_cons e_int a_nil))))) ss_nil)
      (ss_one (s_ret (e_tup (a_cons (e_mkX X_NoGuard (K := K) rfl (hr.mono (by omega)) (by rfl) (a_cons (e_var 1) a_nil)) (a_cons e_int a_nil))))))))))))))))))))) ?_
  · obtain ⟨i, C, fs, x, y, z, rfl, hL, hf, hq⟩ := h
    rfl
  · walk_at "mono"
  · intro xs S Q X cQ cX h
    obtain ⟨i, C, fs, x, y, z, rfl, hL, hf, hq⟩ := h
    simp only [KQ.startT, List.map_cons, List.map_nil, List.length_cons, List.length_nil, Nat.reduceAdd, Nat.reduceSub, List.replicate_succ, List.replicate_zero, List.cons_append, List.nil_append]
    have hi : i < 16 := (List.getElem?_eq_some_iff.mp hL).1
    match i, hi with
    | 0, _ =>
      cases hL; cases hf
      replace hq := Hide.mk hq
      rw [show ((0 : Nat) : Int) = 0 from rfl]
      walk_at "vn"
      all_goals exact hq.go
    | 1, _ =>
      cases hL; cases hf
      replace hq := Hide.mk hq
      rw [show ((1 : Nat) : Int) = 1 from rfl]
      walk_at "vn"
      all_goals exact hq.go
    | 2, _ =>
      cases hL; cases hf
      replace hq := Hide.mk hq
      rw [show ((2 : Nat) : Int) = 2 from rfl]
      walk_at "vn"
      all_goals exact hq.go
    | 3, _ =>
      cases hL; cases hf
      replace hq := Hide.mk hq
      rw [show ((3 : Nat) : Int) = 3 from rfl]
      walk_at "vn"
      all_goals exact hq.go
    | 4, _ =>
      cases hL; cases hf
      replace hq := Hide.mk hq
      rw [show ((4 : Nat) : Int) = 4 from rfl]
      walk_at "vn"
      all_goals exact hq.go
    | 5, _ =>
      cases hL; cases hf
      replace hq := Hide.mk hq
      rw [show ((5 : Nat) : Int) = 5 from rfl]
      walk_at "vn"
      all_goals exact hq.go
    | 6, _ =>
      cases hL; cases hf
      replace hq := Hide.mk hq
      rw [show ((6 : Nat) : Int) = 6 from rfl]
      walk_at "vn"
      all_goals exact hq.go
    | 7, _ =>
      cases hL; cases hf
      replace hq := Hide.mk hq
      rw [show ((7 : Nat) : Int) = 7 from rfl]
      walk_at "vn"
      all_goals exact hq.go
    | 8, _ =>
      cases hL; cases hf
      replace hq := Hide.mk hq
      rw [show ((8 : Nat) : Int) = 8 from rfl]
      walk_at "vn"
      all_goals exact hq.go
    | 9, _ =>
      cases hL; cases hf
      replace hq := Hide.mk hq
      rw [show ((9 : Nat) : Int) = 9 from rfl]
      walk_at "vn"
      all_goals exact hq.go
    | 10, _ =>
      cases hL; cases hf
      replace hq := Hide.mk hq
      rw [show ((10 : Nat) : Int) = 10 from rfl]
      walk_at "vn"
      all_goals exact hq.go
    | 11, _ =>
      cases hL; cases hf
      replace hq := Hide.mk hq
      rw [show ((11 : Nat) : Int) = 11 from rfl]
      walk_at "vn"
      all_goals exact hq.go
    | 12, _ =>
      cases hL; cases hf
      replace hq := Hide.mk hq
      rw [show ((12 : Nat) : Int) = 12 from rfl]
      walk_at "vn"
      all_goals exact hq.go
    | 13, _ =>
      cases hL; cases hf
      replace hq := Hide.mk hq
      rw [show ((13 : Nat) : Int) = 13 from rfl]
      walk_at "vn"
      all_goals exact hq.go
    | 14, _ =>
      cases hL; cases hf
      replace hq := Hide.mk hq
      rw [show ((14 : Nat) : Int) = 14 from rfl]
      walk_at "vn"
      all_goals exact hq.go
    | 15, _ =>
      cases hL; cases hf
      replace hq := Hide.mk hq
      rw [show ((15 : Nat) : Int) = 15 from rfl]
      walk_at "vn"
      all_goals exact hq.go

/-! ### _law_source -/
abbrev N__law_source : List Str := ["_law_script", "_law_cell"]
theorem sc__law_source : FnScope N__law_source ["_law_script"] (defScope s__law_source) := ⟨rfl, rfl, rfl, by decide +kernel, rfl, by decide +kernel, by decide +kernel⟩
def sp_source : TSp := fun xs S Q X => ∃ ns : List Int, xs = [.scr ns] ∧ ns.length ≤ 63 ∧ ∀ (p : Addr) (c : Tr), S p = none → SrcOk c → Q (.ref p) (put S p c)
theorem ok__law_source (T : Top K mg A) {k : Nat}   : CalleeT P w K mg base (k + 1) "_law_source" ["_law_script"] (sp_source) := by
  have nd := sc__law_source.nd
  refine Def.okT T.d__law_source sc__law_source (fun _ _ _ _ _ _ us hl => match us, hl with | [_], _ => rfl) (fun xs S Q X h => ?_) ?_ (fun f cdv AA outer s H E hr tk po => have hu := hu_of hr; (ss_one (s_ret (e_disp (pp_cons e_str (e_lc (own := [("_law_cell", 1)]) (.nm 1) rfl nd (i_seq (e_var 0)) (blkOk_by (own := [("_law_cell", 1)]) (N := N__law_source) (sc := defScope s__law_source) (by decide +kernel)) (by decide) (fun _ _ _ _ _ => (pg_name (i := 1) nd rfl (Or.inl rfl) (hf := Or.inr rfl))) (fun _ _ _ _ _ => ts_nil) (fun _ _ _ _ _ => (e_callTy KB.int_any c_int (by rfl) T.b.b_int boot_int (a_cons (e_var 1) a_nil)))) (pp_cons e_str e_int (pp_cons e_str e_int (pp_cons e_str e_int (pp_cons e_str e_int (pp_cons e_str e_int pp_nil (fun a b r => pps_cons a b r)) (fun a b r => pps_cons a b r)) (fun a b r => pps_cons a b r)) (fun a b r => pps_cons a b r)) (fun a b r => pps_cons a b r)) (fun a b r => pps_cons a b r)) (fun h => pe_disp h (by rfl) (by rfl) (fun z => by cases z) (by decide)))))) ?_
  · obtain ⟨ns, rfl, hl, hq⟩ := h
    rfl
  · walk_at "mono"
  · intro xs S Q X cQ cX h
    obtain ⟨ns, rfl, hl, hq⟩ := h
    simp only [KQ.startT, List.map_cons, List.map_nil, List.length_cons, List.length_nil, Nat.reduceAdd, Nat.reduceSub, List.replicate_succ, List.replicate_zero, List.cons_append, List.nil_append]
    walk_at "vc"
    refine lc_inv _ (fun i acc S' => acc = (ns.map Tr.int).take i ∧ S' = S) ?_ ?_ ⟨rfl, rfl⟩
    · rintro i x acc S' N hx ⟨rfl, rfl⟩ hN
      have hi : i < ns.length := by have := (List.getElem?_eq_some_iff.mp hx).1; rwa [List.length_map] at this
      have ex : x = .int ns[i] := by rw [List.getElem?_map, List.getElem?_eq_getElem hi] at hx; exact (Option.some.inj hx).symm
      subst ex
      walk_at "vc"
      refine ⟨szn (by rw [List.length_take]; omega), hN _ _ ⟨?_, rfl⟩⟩
      rw [List.take_add_one, hx]
      rfl
    · rintro acc S' ⟨rfl, rfl⟩
      rw [List.take_of_length_le (Nat.le_refl _)]
      walk_at "vc"
      exact ⟨srcKs, rfl, sk_nd, by decide, fun p hp => hq p (srcT ns 0 0 7 0 2) hp (src_ok (by decide) (by decide))⟩

/-! ### law -/
abbrev N_law : List Str := ["_law_script", "_law_source_here", "_law_which", "_law_given_here", "_law_made_here", "_law_many", "_law_told", "_law_k"]
theorem sc_law : FnScope N_law ["_law_script"] (defScope s_law) := ⟨rfl, rfl, rfl, by decide +kernel, rfl, by decide +kernel, by decide +kernel⟩
theorem in_trues0 {α : Type} (l : List α) : gIn false (.bl false) (.lst (l.map fun _ => Tr.bl true)) (.bl false) := by
  obtain ⟨v, vs, h1, h2, h3⟩ := in_trues l
  refine ⟨v, vs, h1, h2, ?_⟩
  injection h3 with h3
  cases e : inV v vs
  · rfl
  · rw [e] at h3; cases h3
theorem bls98 {L : List Bool} {n : Bool} : gEq n (.lst (L.map .bl)) (.lst (L.map .bl)) (.bl (n ^^ true)) :=
  self_eq (d := .list (L.map .bool)) (by unfold toD; rw [toDs_bls]; rfl) (by show PyData.canLayAll0 _ = true; exact lay_bls L) (by show PyData.depthAll _ + 1 ≤ 64; have := dep_bls L; omega) rfl
theorem ok_law (T : Top K mg A) {k : Nat} (C__law_caught : CalleeT P w K mg base k "_law_caught" ["_law_which", "_law_a", "_law_b", "_law_c"] (sp_caught98)) (C__law_classes : CalleeT P w K mg base k "_law_classes" ["_law_x"] (sp_classes98 K [A.BadKey, A.DoubleKey, A.NoKey, A.NotText, A.TooDeep, A.BadOption, A.Unwritable, A.Unreadable, A.Refused, A.BadCondition, A.BadLabel, A.NoLabel, A.BadStep, A.WrongNumber, A.TooMuch, A.NoGuard])) (C__law_fields : CalleeT P w K mg base k "_law_fields" ["_law_which", "_law_x"] (sp_fields98 K [A.BadKey, A.DoubleKey, A.NoKey, A.NotText, A.TooDeep, A.BadOption, A.Unwritable, A.Unreadable, A.Refused, A.BadCondition, A.BadLabel, A.NoLabel, A.BadStep, A.WrongNumber, A.TooMuch, A.NoGuard])) (C__law_given : CalleeT P w K mg base k "_law_given" ["_law_source_here", "_law_which"] (sp_given98)) (C__law_like : CalleeT P w K mg base k "_law_like" ["_law_one", "_law_two"] (sp_like98)) (C__law_made : CalleeT P w K mg base k "_law_made" ["_law_which", "_law_a", "_law_b", "_law_c"] (sp_made98 K [A.BadKey, A.DoubleKey, A.NoKey, A.NotText, A.TooDeep, A.BadOption, A.Unwritable, A.Unreadable, A.Refused, A.BadCondition, A.BadLabel, A.NoLabel, A.BadStep, A.WrongNumber, A.TooMuch, A.NoGuard])) (C__law_source : CalleeT P w K mg base k "_law_source" ["_law_script"] (sp_source))  : CalleeT P w K mg base (k + 1) "law" ["_law_script"] (sp_law) := by
  have nd := sc_law.nd
  refine Def.okT T.d_law sc_law (fun _ _ _ _ _ _ us hl => match us, hl with | [_], _ => rfl) (fun xs S Q X h => ?_) ?_ (fun f cdv AA outer s H E hr tk po => have hu := hu_of hr; (ss_cons (s_set (i := 1) nd rfl (Or.inl rfl) (e_call C__law_source (hr.mono (by omega)) (by rfl) tk (a_cons (e_var 0) a_nil)))
      (ss_cons (s_for (.nm 2) po rfl (i_rng1 (by rfl) T.b.b_range (a_cons e_int a_nil)) (pg_name (i := 2) nd rfl (Or.inr rfl)) (ss_cons (s_set (i := 3) nd rfl (Or.inr rfl) (e_call C__law_given (hr.mono (by omega)) (by rfl) tk (a_cons (e_var 1) (a_cons (e_var 2) a_nil))))
      (ss_cons (s_asg (.tp [(.nm 4), (.nm 5)]) (e_call C__law_made (hr.mono (by omega)) (by rfl) tk (a_cons (e_var 2) (a_cons (e_ix (ix_op hr) o_ix (e_var 3) e_int (fun _ _ => rfl)) (a_cons (e_ix (ix_op hr) o_ix (e_var 3) e_int (fun _ _ => rfl)) (a_cons (e_ix (ix_op hr) o_ix (e_var 3) e_int (fun _ _ => rfl)) a_nil))))) (pg_tup rfl (pgs_cons (pg_name (i := 4) nd rfl (Or.inl rfl)) (pgs_cons (pg_name (i := 5) nd rfl (Or.inl rfl)) pgs_nil))))
      (ss_cons (s_set (i := 6) nd rfl (Or.inr rfl) (e_call C__law_fields (hr.mono (by omega)) (by rfl) tk (a_cons (e_var 2) (a_cons (e_var 4) a_nil))))
      (ss_cons (s_if (TPW.pt (w_or (t_cmp (ne_op hr) o_eq (e_callB len_op c_len (by rfl) T.b.b_len boot_len (a_cons (e_var 6) a_nil)) (e_var 5) (nomark _)) (w_or1 (t_cmp (in_op hr) o_in e_bl (e_lc (own := [("_law_k", 7)]) (.nm 7) rfl nd (i_rng1 (by rfl) T.b.b_range (a_cons (e_var 5) a_nil)) (blkOk_by (own := [("_law_k", 7)]) (N := N_law) (sc := defScope s_law) (by decide +kernel)) (by decide) (fun _ _ _ _ _ => (pg_name (i := 7) nd rfl (Or.inl rfl) (hf := Or.inr rfl))) (fun _ _ _ _ _ => ts_nil) (fun _ _ _ _ _ => (e_call C__law_like (hr.mono (by omega)) (by rfl) takes0N (a_cons (e_ix (ix_op hr) o_ix (e_var 6) (e_var 7) (fun _ _ => rfl)) (a_cons (e_ix (ix_op hr) o_ix (e_var 3) (e_var 7) (fun _ _ => rfl)) a_nil))))) (by with_unfolding_all rfl))))) (ss_one (s_ret e_bl)) ss_nil)
      (ss_cons (s_if (t_cmp (ne_op hr) o_eq (e_call C__law_classes (hr.mono (by omega)) (by rfl) tk (a_cons (e_var 4) a_nil)) (e_lc (own := [("_law_k", 7)]) (.nm 7) rfl nd (i_rng1 (by rfl) T.b.b_range (a_cons e_int a_nil)) (blkOk_by (own := [("_law_k", 7)]) (N := N_law) (sc := defScope s_law) (by decide +kernel)) (by decide) (fun _ _ _ _ _ => (pg_name (i := 7) nd rfl (Or.inl rfl) (hf := Or.inr rfl))) (fun _ _ _ _ _ => ts_nil) (fun _ _ _ _ _ => (e_cmp (eq_op hr) o_eq (e_var 7) (e_var 2) (nomark _)))) (nomark _)) (ss_one (s_ret e_bl)) ss_nil)
      (ss_one (s_if (TPW.pt (w_or (t_not (t_val (e_isV (K := K) rfl (by rfl) T.b.b_isinstance (e_var 4) (pe_glob (v := .ref A.KeysError) (by rfl) T.c_KeysError.mg rfl (by decide)) (.own _)))) (w_or1 (t_not (t_val (e_call C__law_caught (hr.mono (by omega)) (by rfl) tk (a_cons (e_var 2) (a_cons (e_ix (ix_op hr) o_ix (e_var 3) e_int (fun _ _ => rfl)) (a_cons (e_ix (ix_op hr) o_ix (e_var 3) e_int (fun _ _ => rfl)) (a_cons (e_ix (ix_op hr) o_ix (e_var 3) e_int (fun _ _ => rfl)) a_nil)))))))))) (ss_one (s_ret e_bl)) ss_nil))))))))
      (ss_one (s_ret e_bl))))) ?_
  · obtain ⟨ns, rfl, hl, hq⟩ := h
    rfl
  · walk_at "mono"
  · intro xs S Q X cQ cX h
    obtain ⟨ns, rfl, hl, hq⟩ := h
    simp only [KQ.startT, List.map_cons, List.map_nil, List.length_cons, List.length_nil, Nat.reduceAdd, Nat.reduceSub, List.replicate_succ, List.replicate_zero, List.cons_append, List.nil_append]
    replace hq := Hide.mk hq
    walk_at "vn"
    refine ⟨ns, rfl, hl, fun p c hp hc => ?_⟩
    refine loop_inv _ (fun i ρ S' => ∃ (c2 : Tr) (xs : List (Option Tr)), ρ = some (.scr ns) :: some (.ref p) :: xs ∧ xs.length = 6 ∧ S' = put S p c2 ∧ SrcOk c2) ?_ ?_ ⟨c, _, rfl, rfl, rfl, hc⟩
    rotate_left
    · rintro ρ S' ⟨c2, xs, rfl, lx, rfl, d2⟩
      walk_at "vn"
      exact cQ.drop (sub_new hp) hq.go
    rintro i x ρ S' N hx ⟨c2, xs, rfl, lx, rfl, d2⟩ hN
    obtain ⟨rfl, hi⟩ := rng_at hx
    clear hx
    have hi : i < 16 := hi
    match xs, lx with
    | [x2, x3, x4, x5, x6, x7], _ =>
    clear lx
    replace hN := Hide.mk hN
    have hx : ∃ C fs, [A.BadKey, A.DoubleKey, A.NoKey, A.NotText, A.TooDeep, A.BadOption, A.Unwritable, A.Unreadable, A.Refused, A.BadCondition, A.BadLabel, A.NoLabel, A.BadStep, A.WrongNumber, A.TooMuch, A.NoGuard][i]? = some C ∧ fld98[i]? = some fs ∧ fs.length ≤ 3 ∧ ExcC K C ∧ PySem.W.kitOne K (.ref C) (.ref A.KeysError) = some true := by
      clear hN hq
      rcases (by omega : i = 0 ∨ i = 1 ∨ i = 2 ∨ i = 3 ∨ i = 4 ∨ i = 5 ∨ i = 6 ∨ i = 7 ∨ i = 8 ∨ i = 9 ∨ i = 10 ∨ i = 11 ∨ i = 12 ∨ i = 13 ∨ i = 14 ∨ i = 15) with rfl | rfl | rfl | rfl | rfl | rfl | rfl | rfl | rfl | rfl | rfl | rfl | rfl | rfl | rfl | rfl
      · exact ⟨_, _, rfl, rfl, by decide, T.xc_BadKey, T.ki_BadKey_KeysError⟩
      · exact ⟨_, _, rfl, rfl, by decide, T.xc_DoubleKey, T.ki_DoubleKey_KeysError⟩
      · exact ⟨_, _, rfl, rfl, by decide, T.xc_NoKey, T.ki_NoKey_KeysError⟩
      · exact ⟨_, _, rfl, rfl, by decide, T.xc_NotText, T.ki_NotText_KeysError⟩
      · exact ⟨_, _, rfl, rfl, by decide, T.xc_TooDeep, T.ki_TooDeep_KeysError⟩
      · exact ⟨_, _, rfl, rfl, by decide, T.xc_BadOption, T.ki_BadOption_KeysError⟩
      · exact ⟨_, _, rfl, rfl, by decide, T.xc_Unwritable, T.ki_Unwritable_KeysError⟩
      · exact ⟨_, _, rfl, rfl, by decide, T.xc_Unreadable, T.ki_Unreadable_KeysError⟩
      · exact ⟨_, _, rfl, rfl, by decide, T.xc_Refused, T.ki_Refused_KeysError⟩
      · exact ⟨_, _, rfl, rfl, by decide, T.xc_BadCondition, T.ki_BadCondition_KeysError⟩
      · exact ⟨_, _, rfl, rfl, by decide, T.xc_BadLabel, T.ki_BadLabel_KeysError⟩
      · exact ⟨_, _, rfl, rfl, by decide, T.xc_NoLabel, T.ki_NoLabel_KeysError⟩
      · exact ⟨_, _, rfl, rfl, by decide, T.xc_BadStep, T.ki_BadStep_KeysError⟩
      · exact ⟨_, _, rfl, rfl, by decide, T.xc_WrongNumber, T.ki_WrongNumber_KeysError⟩
      · exact ⟨_, _, rfl, rfl, by decide, T.xc_TooMuch, T.ki_TooMuch_KeysError⟩
      · exact ⟨_, _, rfl, rfl, by decide, T.xc_NoGuard, T.ki_NoGuard_KeysError⟩
    obtain ⟨C, fs, hL, hf, lf, xc, ki⟩ := hx
    replace xc := Hide.mk xc
    replace ki := Hide.mk ki
    replace hL := Hide.mk hL
    replace hf := Hide.mk hf
    walk_at "vn"
    refine ⟨p, c2, i, rfl, put_same, d2, hi, fun a b e c3 ga gb ge d3 => ?_⟩
    rw [put_put]
    walk_at "vn"
    refine ⟨i, C, fs, a, b, e, rfl, hL.go, hf.go, ?_⟩
    have ly : ([a, b, e].take fs.length).length = fs.length := by rw [List.length_take]; show min fs.length 3 = fs.length; omega
    have at_ : ∀ k v, ([a, b, e].take fs.length)[k]? = some v → [a, b, e][k]? = some v ∧ GV98 v := fun k v h => by
      have hk : k < fs.length := by rw [← ly]; exact (List.getElem?_eq_some_iff.mp h).1
      rw [List.getElem?_take, if_pos hk] at h
      refine ⟨h, ?_⟩
      have := List.mem_of_getElem? h
      simp only [List.mem_cons, List.not_mem_nil, or_false] at this
      rcases this with rfl | rfl | rfl <;> assumption
    generalize [a, b, e].take fs.length = ys at ly at_ ⊢
    replace at_ := Hide.mk at_
    walk_at "vn"
    refine ⟨i, C, fs, ys, rfl, hL.go, hf.go, ly, ?_⟩
    walk_at "vn"
    refine ⟨by omega, by omega, ?_⟩
    rw [show ((fs.length : Nat) : Int).toNat = ys.length from ly.symm]
    refine lc_ix ys (fun _ => .bl true) trivial (by omega) (fun k v hv N1 k1 => ?_) ?_
    · obtain ⟨h1, h2⟩ := at_.go k v hv
      have a1 : atI ys (k : Int) = some v := atI_nat hv
      have a2 : atI [a, b, e] (k : Int) = some v := atI_nat h1
      replace k1 := Hide.mk k1
      walk_at "vn"
      exact ⟨v, rfl, h2, k1.go⟩
    refine ⟨.bl false, in_trues0 ys, false, rfl, ?_⟩
    rw [if_neg (by decide)]
    refine ⟨i, C, fs, ys, rfl, hL.go, ?_⟩
    refine lc_ix (List.range 16) (fun j => .bl (decide (j = i))) trivial (by decide) (fun j v hv N1 k1 => ?_) ?_
    · obtain rfl : j = v := by
        rw [List.getElem?_range (by have := (List.getElem?_eq_some_iff.mp hv).1; rwa [List.length_range] at this)] at hv
        exact Option.some.inj hv
      have e : decide ((j : Int) = (i : Int)) = decide (j = i) := decide_eq_decide.mpr (by omega)
      rw [← e] at k1
      replace k1 := Hide.mk k1
      clear e
      walk_at "vn"
      all_goals exact k1.go
    have eb : (List.range 16).map (fun j => Tr.bl (decide (j = i))) = ((List.range 16).map fun j => decide (j = i)).map Tr.bl := by rw [List.map_map]; rfl
    rw [eb]
    refine ⟨.bl false, bls98, false, rfl, ?_⟩
    rw [if_neg (by decide)]
    refine ⟨C, ⟨_, _, rfl⟩, xc.go, true, ki.go, ?_⟩
    rw [if_neg (by decide)]
    refine ⟨i, a, b, e, rfl, hi, true, rfl, ?_⟩
    rw [if_neg (by decide)]
    exact hN.go _ _ ⟨c3, _, rfl, rfl, rfl, d3⟩

end
set_option maxHeartbeats 0 in
theorem topK {K : PySem.W.Frag} {h : Heap} {mg : Str → Option Value} (X : K.In h) (G : h.Ns mainGlobals mg) (c : SaysB fbK fnK K) : Top K mg ⟨(), (He.ga K "KeysError"), (He.ga K "BadKey"), (He.ga K "DoubleKey"), (He.ga K "NoKey"), (He.ga K "NotText"), (He.ga K "TooDeep"), (He.ga K "BadOption"), (He.ga K "Unwritable"), (He.ga K "Unreadable"), (He.ga K "Refused"), (He.ga K "BadCondition"), (He.ga K "BadLabel"), (He.ga K "NoLabel"), (He.ga K "BadStep"), (He.ga K "WrongNumber"), (He.ga K "TooMuch"), (He.ga K "NoGuard")⟩ := by
  obtain ⟨fd0, F0⟩ := c.def_ 0 rfl
  obtain ⟨fd1, F1⟩ := c.def_ 1 rfl
  obtain ⟨fd2, F2⟩ := c.def_ 2 rfl
  obtain ⟨fd3, F3⟩ := c.def_ 3 rfl
  obtain ⟨fd4, F4⟩ := c.def_ 4 rfl
  obtain ⟨fd5, F5⟩ := c.def_ 5 rfl
  obtain ⟨fd6, F6⟩ := c.def_ 6 rfl
  obtain ⟨fd7, F7⟩ := c.def_ 7 rfl
  obtain ⟨fd8, F8⟩ := c.def_ 8 rfl
  obtain ⟨fd9, F9⟩ := c.def_ 9 rfl
  obtain ⟨fd10, F10⟩ := c.def_ 10 rfl
  obtain ⟨fd11, F11⟩ := c.def_ 11 rfl
  obtain ⟨fd12, F12⟩ := c.def_ 12 rfl
  obtain ⟨fd13, F13⟩ := c.def_ 13 rfl
  obtain ⟨fd14, F14⟩ := c.def_ 14 rfl
  obtain ⟨fd15, F15⟩ := c.def_ 15 rfl
  obtain ⟨fd16, F16⟩ := c.def_ 16 rfl
  obtain ⟨fd17, F17⟩ := c.def_ 17 rfl
  obtain ⟨fd18, F18⟩ := c.def_ 18 rfl
  obtain ⟨fd19, F19⟩ := c.def_ 19 rfl
  obtain ⟨fd20, F20⟩ := c.def_ 20 rfl
  obtain ⟨fd21, F21⟩ := c.def_ 21 rfl
  obtain ⟨fd22, F22⟩ := c.def_ 22 rfl
  obtain ⟨fd23, F23⟩ := c.def_ 23 rfl
  obtain ⟨fd24, F24⟩ := c.def_ 24 rfl
  obtain ⟨fd25, F25⟩ := c.def_ 25 rfl
  obtain ⟨fd26, F26⟩ := c.def_ 26 rfl
  obtain ⟨fd27, F27⟩ := c.def_ 27 rfl
  obtain ⟨fd28, F28⟩ := c.def_ 28 rfl
  obtain ⟨fd29, F29⟩ := c.def_ 29 rfl
  obtain ⟨fd30, F30⟩ := c.def_ 30 rfl
  exact ⟨⟨PySem.W.mg_none_of X G (c.at 0 rfl), PySem.W.mg_none_of X G (c.at 1 rfl), PySem.W.mg_none_of X G (c.at 2 rfl), PySem.W.mg_none_of X G (c.at 3 rfl), PySem.W.mg_none_of X G (c.at 4 rfl), PySem.W.mg_none_of X G (c.at 5 rfl), PySem.W.mg_none_of X G (c.at 6 rfl), PySem.W.mg_none_of X G (c.at 7 rfl), PySem.W.mg_none_of X G (c.at 8 rfl), PySem.W.mg_none_of X G (c.at 9 rfl), PySem.W.mg_none_of X G (c.at 10 rfl), PySem.W.mg_none_of X G (c.at 11 rfl), PySem.W.mg_none_of X G (c.at 12 rfl), PySem.W.mg_none_of X G (c.at 13 rfl), PySem.W.mg_none_of X G (c.at 14 rfl), PySem.W.mg_none_of X G (c.at 15 rfl), PySem.W.mg_none_of X G (c.at 16 rfl), PySem.W.mg_none_of X G (c.at 17 rfl), PySem.W.mg_none_of X G (c.at 18 rfl), PySem.W.mg_none_of X G (c.at 19 rfl), PySem.W.mg_none_of X G (c.at 20 rfl)⟩,
    ⟨⟨_, fd0, F0, (c.at 21 rfl), (c.at 22 rfl)⟩⟩,
    ⟨⟨_, fd1, F1, (c.at 23 rfl), (c.at 24 rfl)⟩⟩,
    ⟨⟨_, fd2, F2, (c.at 25 rfl), (c.at 26 rfl)⟩⟩,
    ⟨⟨_, fd3, F3, (c.at 27 rfl), (c.at 28 rfl)⟩⟩,
    ⟨⟨_, fd4, F4, (c.at 29 rfl), (c.at 30 rfl)⟩⟩,
    ⟨⟨_, fd5, F5, (c.at 31 rfl), (c.at 32 rfl)⟩⟩,
    ⟨⟨_, fd6, F6, (c.at 33 rfl), (c.at 34 rfl)⟩⟩,
    ⟨⟨_, fd7, F7, (c.at 35 rfl), (c.at 36 rfl)⟩⟩,
    ⟨⟨_, fd8, F8, (c.at 37 rfl), (c.at 38 rfl)⟩⟩,
    ⟨⟨_, fd9, fun_of F9, PySem.W.mg_of X G (c.at 39 rfl)⟩⟩,
    ⟨⟨_, fd10, F10, (c.at 40 rfl), (c.at 41 rfl)⟩⟩,
    ⟨⟨_, fd11, F11, (c.at 42 rfl), (c.at 43 rfl)⟩⟩,
    ⟨⟨_, fd12, F12, (c.at 44 rfl), (c.at 45 rfl)⟩⟩,
    ⟨⟨_, fd13, F13, (c.at 46 rfl), (c.at 47 rfl)⟩⟩,
    ⟨⟨_, fd14, F14, (c.at 48 rfl), (c.at 49 rfl)⟩⟩,
    ⟨⟨_, fd15, F15, (c.at 50 rfl), (c.at 51 rfl)⟩⟩,
    ⟨⟨_, fd16, F16, (c.at 52 rfl), (c.at 53 rfl)⟩⟩,
    ⟨⟨_, fd17, fun_of F17, PySem.W.mg_of X G (c.at 54 rfl)⟩⟩,
    ⟨⟨_, fd18, fun_of F18, PySem.W.mg_of X G (c.at 55 rfl)⟩⟩,
    ⟨⟨_, fd19, fun_of F19, PySem.W.mg_of X G (c.at 56 rfl)⟩⟩,
    ⟨⟨_, fd20, fun_of F20, PySem.W.mg_of X G (c.at 57 rfl)⟩⟩,
    ⟨⟨_, fd21, fun_of F21, PySem.W.mg_of X G (c.at 58 rfl)⟩⟩,
    ⟨⟨_, fd22, fun_of F22, PySem.W.mg_of X G (c.at 59 rfl)⟩⟩,
    ⟨⟨_, fd23, fun_of F23, PySem.W.mg_of X G (c.at 60 rfl)⟩⟩,
    ⟨⟨_, fd24, fun_of F24, PySem.W.mg_of X G (c.at 61 rfl)⟩⟩,
    ⟨⟨_, fd25, fun_of F25, PySem.W.mg_of X G (c.at 62 rfl)⟩⟩,
    ⟨⟨_, fd26, fun_of F26, PySem.W.mg_of X G (c.at 63 rfl)⟩⟩,
    ⟨⟨_, fd27, fun_of F27, PySem.W.mg_of X G (c.at 64 rfl)⟩⟩,
    ⟨⟨_, fd28, fun_of F28, PySem.W.mg_of X G (c.at 65 rfl)⟩⟩,
    ⟨⟨_, fd29, fun_of F29, PySem.W.mg_of X G (c.at 66 rfl)⟩⟩,
    ⟨⟨_, fd30, fun_of F30, PySem.W.mg_of X G (c.at 67 rfl)⟩⟩,
    ⟨PySem.W.mg_of X G (c.at 68 rfl)⟩,
    ⟨PySem.W.mg_of X G (c.at 69 rfl)⟩,
    ⟨PySem.W.mg_of X G (c.at 70 rfl)⟩,
    ⟨PySem.W.mg_of X G (c.at 71 rfl)⟩,
    ⟨PySem.W.mg_of X G (c.at 72 rfl)⟩,
    ⟨PySem.W.mg_of X G (c.at 73 rfl)⟩,
    ⟨PySem.W.mg_of X G (c.at 74 rfl)⟩,
    ⟨PySem.W.mg_of X G (c.at 75 rfl)⟩,
    ⟨PySem.W.mg_of X G (c.at 76 rfl)⟩,
    ⟨PySem.W.mg_of X G (c.at 77 rfl)⟩,
    ⟨PySem.W.mg_of X G (c.at 78 rfl)⟩,
    ⟨PySem.W.mg_of X G (c.at 79 rfl)⟩,
    ⟨PySem.W.mg_of X G (c.at 80 rfl)⟩,
    ⟨PySem.W.mg_of X G (c.at 81 rfl)⟩,
    ⟨PySem.W.mg_of X G (c.at 82 rfl)⟩,
    ⟨PySem.W.mg_of X G (c.at 83 rfl)⟩,
    ⟨PySem.W.mg_of X G (c.at 84 rfl)⟩,
    ⟨oexB_ok (c.fact 85 rfl), (c.at 86 rfl), (c.at 87 rfl), (c.at 88 rfl), (c.at 89 rfl)⟩,
    ⟨oexB_ok (c.fact 90 rfl), (c.at 91 rfl), (c.at 92 rfl), (c.at 93 rfl), (c.at 94 rfl)⟩,
    ⟨oexB_ok (c.fact 95 rfl), (c.at 96 rfl), (c.at 97 rfl), (c.at 98 rfl), (c.at 99 rfl)⟩,
    ⟨oexB_ok (c.fact 100 rfl), (c.at 101 rfl), (c.at 102 rfl), (c.at 103 rfl), (c.at 104 rfl)⟩,
    ⟨oexB_ok (c.fact 105 rfl), (c.at 106 rfl), (c.at 107 rfl), (c.at 108 rfl), (c.at 109 rfl)⟩,
    ⟨oexB_ok (c.fact 110 rfl), (c.at 111 rfl), (c.at 112 rfl), (c.at 113 rfl), (c.at 114 rfl)⟩,
    ⟨oexB_ok (c.fact 115 rfl), (c.at 116 rfl), (c.at 117 rfl), (c.at 118 rfl), (c.at 119 rfl)⟩,
    ⟨oexB_ok (c.fact 120 rfl), (c.at 121 rfl), (c.at 122 rfl), (c.at 123 rfl), (c.at 124 rfl)⟩,
    ⟨oexB_ok (c.fact 125 rfl), (c.at 126 rfl), (c.at 127 rfl), (c.at 128 rfl), (c.at 129 rfl)⟩,
    ⟨oexB_ok (c.fact 130 rfl), (c.at 131 rfl), (c.at 132 rfl), (c.at 133 rfl), (c.at 134 rfl)⟩,
    ⟨oexB_ok (c.fact 135 rfl), (c.at 136 rfl), (c.at 137 rfl), (c.at 138 rfl), (c.at 139 rfl)⟩,
    ⟨oexB_ok (c.fact 140 rfl), (c.at 141 rfl), (c.at 142 rfl), (c.at 143 rfl), (c.at 144 rfl)⟩,
    ⟨oexB_ok (c.fact 145 rfl), (c.at 146 rfl), (c.at 147 rfl), (c.at 148 rfl), (c.at 149 rfl)⟩,
    ⟨oexB_ok (c.fact 150 rfl), (c.at 151 rfl), (c.at 152 rfl), (c.at 153 rfl), (c.at 154 rfl)⟩,
    ⟨oexB_ok (c.fact 155 rfl), (c.at 156 rfl), (c.at 157 rfl), (c.at 158 rfl), (c.at 159 rfl)⟩,
    ⟨oexB_ok (c.fact 160 rfl), (c.at 161 rfl), (c.at 162 rfl), (c.at 163 rfl), (c.at 164 rfl)⟩,
    ⟨(c.at 165 rfl), (c.at 166 rfl), (c.at 87 rfl), (c.at 167 rfl), (c.at 168 rfl), (c.at 169 rfl), (c.at 170 rfl), (c.at 171 rfl)⟩,
    (c.at 172 rfl),
    (c.at 173 rfl),
    (c.at 174 rfl),
    (c.at 175 rfl),
    (c.at 176 rfl),
    (c.at 177 rfl),
    (c.at 178 rfl),
    (c.at 179 rfl),
    (c.at 180 rfl),
    (c.at 181 rfl),
    (c.at 182 rfl),
    (c.at 183 rfl),
    (c.at 184 rfl),
    (c.at 185 rfl),
    (c.at 186 rfl),
    (c.at 187 rfl),
    (c.at 188 rfl),
    (c.at 189 rfl),
    (c.at 190 rfl),
    (c.at 191 rfl),
    ⟨(c.at 192 rfl), (c.at 193 rfl), (c.at 92 rfl), (c.at 194 rfl), (c.at 195 rfl), (c.at 169 rfl), (c.at 170 rfl), (c.at 196 rfl)⟩,
    (c.at 197 rfl),
    (c.at 198 rfl),
    (c.at 199 rfl),
    (c.at 200 rfl),
    (c.at 201 rfl),
    (c.at 202 rfl),
    (c.at 203 rfl),
    (c.at 204 rfl),
    (c.at 205 rfl),
    (c.at 206 rfl),
    (c.at 207 rfl),
    (c.at 208 rfl),
    (c.at 209 rfl),
    (c.at 210 rfl),
    (c.at 211 rfl),
    (c.at 212 rfl),
    (c.at 213 rfl),
    (c.at 214 rfl),
    (c.at 215 rfl),
    (c.at 216 rfl),
    ⟨(c.at 217 rfl), (c.at 218 rfl), (c.at 97 rfl), (c.at 219 rfl), (c.at 220 rfl), (c.at 169 rfl), (c.at 170 rfl), (c.at 221 rfl)⟩,
    (c.at 222 rfl),
    (c.at 223 rfl),
    (c.at 224 rfl),
    (c.at 225 rfl),
    (c.at 226 rfl),
    (c.at 227 rfl),
    (c.at 228 rfl),
    (c.at 229 rfl),
    (c.at 230 rfl),
    (c.at 231 rfl),
    (c.at 232 rfl),
    (c.at 233 rfl),
    (c.at 234 rfl),
    (c.at 235 rfl),
    (c.at 236 rfl),
    (c.at 237 rfl),
    (c.at 238 rfl),
    (c.at 239 rfl),
    (c.at 240 rfl),
    (c.at 241 rfl),
    ⟨(c.at 242 rfl), (c.at 243 rfl), (c.at 102 rfl), (c.at 244 rfl), (c.at 245 rfl), (c.at 169 rfl), (c.at 170 rfl), (c.at 246 rfl)⟩,
    (c.at 247 rfl),
    (c.at 248 rfl),
    (c.at 249 rfl),
    (c.at 250 rfl),
    (c.at 251 rfl),
    (c.at 252 rfl),
    (c.at 253 rfl),
    (c.at 254 rfl),
    (c.at 255 rfl),
    (c.at 256 rfl),
    (c.at 257 rfl),
    (c.at 258 rfl),
    (c.at 259 rfl),
    (c.at 260 rfl),
    (c.at 261 rfl),
    (c.at 262 rfl),
    (c.at 263 rfl),
    (c.at 264 rfl),
    (c.at 265 rfl),
    (c.at 266 rfl),
    ⟨(c.at 267 rfl), (c.at 268 rfl), (c.at 107 rfl), (c.at 269 rfl), (c.at 270 rfl), (c.at 169 rfl), (c.at 170 rfl), (c.at 271 rfl)⟩,
    (c.at 272 rfl),
    (c.at 273 rfl),
    (c.at 274 rfl),
    (c.at 275 rfl),
    (c.at 276 rfl),
    (c.at 277 rfl),
    (c.at 278 rfl),
    (c.at 279 rfl),
    (c.at 280 rfl),
    (c.at 281 rfl),
    (c.at 282 rfl),
    (c.at 283 rfl),
    (c.at 284 rfl),
    (c.at 285 rfl),
    (c.at 286 rfl),
    (c.at 287 rfl),
    (c.at 288 rfl),
    (c.at 289 rfl),
    (c.at 290 rfl),
    (c.at 291 rfl),
    ⟨(c.at 292 rfl), (c.at 293 rfl), (c.at 112 rfl), (c.at 294 rfl), (c.at 295 rfl), (c.at 169 rfl), (c.at 170 rfl), (c.at 296 rfl)⟩,
    (c.at 297 rfl),
    (c.at 298 rfl),
    (c.at 299 rfl),
    (c.at 300 rfl),
    (c.at 301 rfl),
    (c.at 302 rfl),
    (c.at 303 rfl),
    (c.at 304 rfl),
    (c.at 305 rfl),
    (c.at 306 rfl),
    (c.at 307 rfl),
    (c.at 308 rfl),
    (c.at 309 rfl),
    (c.at 310 rfl),
    (c.at 311 rfl),
    (c.at 312 rfl),
    (c.at 313 rfl),
    (c.at 314 rfl),
    (c.at 315 rfl),
    (c.at 316 rfl),
    (c.at 317 rfl),
    ⟨(c.at 318 rfl), (c.at 319 rfl), (c.at 117 rfl), (c.at 320 rfl), (c.at 321 rfl), (c.at 169 rfl), (c.at 170 rfl), (c.at 322 rfl)⟩,
    (c.at 323 rfl),
    (c.at 324 rfl),
    (c.at 325 rfl),
    (c.at 326 rfl),
    (c.at 327 rfl),
    (c.at 328 rfl),
    (c.at 329 rfl),
    (c.at 330 rfl),
    (c.at 331 rfl),
    (c.at 332 rfl),
    (c.at 333 rfl),
    (c.at 334 rfl),
    (c.at 335 rfl),
    (c.at 336 rfl),
    (c.at 337 rfl),
    (c.at 338 rfl),
    (c.at 339 rfl),
    (c.at 340 rfl),
    (c.at 341 rfl),
    (c.at 342 rfl),
    (c.at 343 rfl),
    ⟨(c.at 344 rfl), (c.at 345 rfl), (c.at 122 rfl), (c.at 346 rfl), (c.at 347 rfl), (c.at 169 rfl), (c.at 170 rfl), (c.at 348 rfl)⟩,
    (c.at 349 rfl),
    (c.at 350 rfl),
    (c.at 351 rfl),
    (c.at 352 rfl),
    (c.at 353 rfl),
    (c.at 354 rfl),
    (c.at 355 rfl),
    (c.at 356 rfl),
    (c.at 357 rfl),
    (c.at 358 rfl),
    (c.at 359 rfl),
    (c.at 360 rfl),
    (c.at 361 rfl),
    (c.at 362 rfl),
    (c.at 363 rfl),
    (c.at 364 rfl),
    (c.at 365 rfl),
    (c.at 366 rfl),
    (c.at 367 rfl),
    (c.at 368 rfl),
    (c.at 369 rfl),
    ⟨(c.at 370 rfl), (c.at 371 rfl), (c.at 127 rfl), (c.at 372 rfl), (c.at 373 rfl), (c.at 169 rfl), (c.at 170 rfl), (c.at 374 rfl)⟩,
    (c.at 375 rfl),
    (c.at 376 rfl),
    (c.at 377 rfl),
    (c.at 378 rfl),
    (c.at 379 rfl),
    (c.at 380 rfl),
    (c.at 381 rfl),
    (c.at 382 rfl),
    (c.at 383 rfl),
    (c.at 384 rfl),
    (c.at 385 rfl),
    (c.at 386 rfl),
    (c.at 387 rfl),
    (c.at 388 rfl),
    (c.at 389 rfl),
    (c.at 390 rfl),
    (c.at 391 rfl),
    (c.at 392 rfl),
    (c.at 393 rfl),
    (c.at 394 rfl),
    (c.at 395 rfl),
    (c.at 396 rfl),
    ⟨(c.at 397 rfl), (c.at 398 rfl), (c.at 132 rfl), (c.at 399 rfl), (c.at 400 rfl), (c.at 169 rfl), (c.at 170 rfl), (c.at 401 rfl)⟩,
    (c.at 402 rfl),
    (c.at 403 rfl),
    (c.at 404 rfl),
    (c.at 405 rfl),
    (c.at 406 rfl),
    (c.at 407 rfl),
    (c.at 408 rfl),
    (c.at 409 rfl),
    (c.at 410 rfl),
    (c.at 411 rfl),
    (c.at 412 rfl),
    (c.at 413 rfl),
    (c.at 414 rfl),
    (c.at 415 rfl),
    (c.at 416 rfl),
    (c.at 417 rfl),
    (c.at 418 rfl),
    (c.at 419 rfl),
    (c.at 420 rfl),
    (c.at 421 rfl),
    ⟨(c.at 422 rfl), (c.at 423 rfl), (c.at 137 rfl), (c.at 424 rfl), (c.at 425 rfl), (c.at 169 rfl), (c.at 170 rfl), (c.at 426 rfl)⟩,
    (c.at 427 rfl),
    (c.at 428 rfl),
    (c.at 429 rfl),
    (c.at 430 rfl),
    (c.at 431 rfl),
    (c.at 432 rfl),
    (c.at 433 rfl),
    (c.at 434 rfl),
    (c.at 435 rfl),
    (c.at 436 rfl),
    (c.at 437 rfl),
    (c.at 438 rfl),
    (c.at 439 rfl),
    (c.at 440 rfl),
    (c.at 441 rfl),
    (c.at 442 rfl),
    (c.at 443 rfl),
    (c.at 444 rfl),
    (c.at 445 rfl),
    (c.at 446 rfl),
    ⟨(c.at 447 rfl), (c.at 448 rfl), (c.at 142 rfl), (c.at 449 rfl), (c.at 450 rfl), (c.at 169 rfl), (c.at 170 rfl), (c.at 451 rfl)⟩,
    (c.at 452 rfl),
    (c.at 453 rfl),
    (c.at 454 rfl),
    (c.at 455 rfl),
    (c.at 456 rfl),
    (c.at 457 rfl),
    (c.at 458 rfl),
    (c.at 459 rfl),
    (c.at 460 rfl),
    (c.at 461 rfl),
    (c.at 462 rfl),
    (c.at 463 rfl),
    (c.at 464 rfl),
    (c.at 465 rfl),
    (c.at 466 rfl),
    (c.at 467 rfl),
    (c.at 468 rfl),
    (c.at 469 rfl),
    (c.at 470 rfl),
    (c.at 471 rfl),
    ⟨(c.at 472 rfl), (c.at 473 rfl), (c.at 147 rfl), (c.at 474 rfl), (c.at 475 rfl), (c.at 169 rfl), (c.at 170 rfl), (c.at 476 rfl)⟩,
    (c.at 477 rfl),
    (c.at 478 rfl),
    (c.at 479 rfl),
    (c.at 480 rfl),
    (c.at 481 rfl),
    (c.at 482 rfl),
    (c.at 483 rfl),
    (c.at 484 rfl),
    (c.at 485 rfl),
    (c.at 486 rfl),
    (c.at 487 rfl),
    (c.at 488 rfl),
    (c.at 489 rfl),
    (c.at 490 rfl),
    (c.at 491 rfl),
    (c.at 492 rfl),
    (c.at 493 rfl),
    (c.at 494 rfl),
    (c.at 495 rfl),
    (c.at 496 rfl),
    ⟨(c.at 497 rfl), (c.at 498 rfl), (c.at 152 rfl), (c.at 499 rfl), (c.at 500 rfl), (c.at 169 rfl), (c.at 170 rfl), (c.at 501 rfl)⟩,
    (c.at 502 rfl),
    (c.at 503 rfl),
    (c.at 504 rfl),
    (c.at 505 rfl),
    (c.at 506 rfl),
    (c.at 507 rfl),
    (c.at 508 rfl),
    (c.at 509 rfl),
    (c.at 510 rfl),
    (c.at 511 rfl),
    (c.at 512 rfl),
    (c.at 513 rfl),
    (c.at 514 rfl),
    (c.at 515 rfl),
    (c.at 516 rfl),
    (c.at 517 rfl),
    (c.at 518 rfl),
    (c.at 519 rfl),
    (c.at 520 rfl),
    (c.at 521 rfl),
    (c.at 522 rfl),
    ⟨(c.at 523 rfl), (c.at 524 rfl), (c.at 157 rfl), (c.at 525 rfl), (c.at 526 rfl), (c.at 169 rfl), (c.at 170 rfl), (c.at 527 rfl)⟩,
    (c.at 528 rfl),
    (c.at 529 rfl),
    (c.at 530 rfl),
    (c.at 531 rfl),
    (c.at 532 rfl),
    (c.at 533 rfl),
    (c.at 534 rfl),
    (c.at 535 rfl),
    (c.at 536 rfl),
    (c.at 537 rfl),
    (c.at 538 rfl),
    (c.at 539 rfl),
    (c.at 540 rfl),
    (c.at 541 rfl),
    (c.at 542 rfl),
    (c.at 543 rfl),
    (c.at 544 rfl),
    (c.at 545 rfl),
    (c.at 546 rfl),
    (c.at 547 rfl),
    ⟨(c.at 548 rfl), (c.at 549 rfl), (c.at 162 rfl), (c.at 550 rfl), (c.at 551 rfl), (c.at 169 rfl), (c.at 170 rfl), (c.at 552 rfl)⟩,
    (c.at 553 rfl),
    (c.at 554 rfl),
    (c.at 555 rfl),
    (c.at 556 rfl),
    (c.at 557 rfl),
    (c.at 558 rfl),
    (c.at 559 rfl),
    (c.at 560 rfl),
    (c.at 561 rfl),
    (c.at 562 rfl),
    (c.at 563 rfl),
    (c.at 564 rfl),
    (c.at 565 rfl),
    (c.at 566 rfl),
    (c.at 567 rfl),
    (c.at 568 rfl),
    (c.at 569 rfl),
    (c.at 570 rfl),
    (c.at 571 rfl),
    (c.at 572 rfl)⟩
theorem lawK {P : Program} {w : World} {K : PySem.W.Frag} {mg : Str → Option Value} {A : Adr} (T : Top K mg A) (base : Heap) : CalleeT P w K mg base 6 "law" ["_law_script"] (sp_law) := by
  have X_BadKey := ok_BadKey___init__ (P := P) (w := w) (base := base) (k := 0) T
  have X_BadOption := ok_BadOption___init__ (P := P) (w := w) (base := base) (k := 0) T
  have X_DoubleKey := ok_DoubleKey___init__ (P := P) (w := w) (base := base) (k := 0) T
  have X_NoKey := ok_NoKey___init__ (P := P) (w := w) (base := base) (k := 0) T
  have X_NotText := ok_NotText___init__ (P := P) (w := w) (base := base) (k := 0) T
  have X_Refused := ok_Refused___init__ (P := P) (w := w) (base := base) (k := 0) T
  have X_TooDeep := ok_TooDeep___init__ (P := P) (w := w) (base := base) (k := 0) T
  have X_Unreadable := ok_Unreadable___init__ (P := P) (w := w) (base := base) (k := 0) T
  have X_Unwritable := ok_Unwritable___init__ (P := P) (w := w) (base := base) (k := 0) T
  have C__law_raise_early := ok__law_raise_early (P := P) (w := w) (base := base) (k := 1) T (X_BadKey.lift (by decide : 1 ≤ 1)) (X_BadOption.lift (by decide : 1 ≤ 1)) (X_DoubleKey.lift (by decide : 1 ≤ 1)) (X_NoKey.lift (by decide : 1 ≤ 1)) (X_NotText.lift (by decide : 1 ≤ 1)) (X_Refused.lift (by decide : 1 ≤ 1)) (X_TooDeep.lift (by decide : 1 ≤ 1)) (X_Unreadable.lift (by decide : 1 ≤ 1)) (X_Unwritable.lift (by decide : 1 ≤ 1))
  have X_BadCondition := ok_BadCondition___init__ (P := P) (w := w) (base := base) (k := 0) T
  have X_BadLabel := ok_BadLabel___init__ (P := P) (w := w) (base := base) (k := 0) T
  have X_BadStep := ok_BadStep___init__ (P := P) (w := w) (base := base) (k := 0) T
  have X_NoGuard := ok_NoGuard___init__ (P := P) (w := w) (base := base) (k := 0) T
  have X_NoLabel := ok_NoLabel___init__ (P := P) (w := w) (base := base) (k := 0) T
  have X_TooMuch := ok_TooMuch___init__ (P := P) (w := w) (base := base) (k := 0) T
  have X_WrongNumber := ok_WrongNumber___init__ (P := P) (w := w) (base := base) (k := 0) T
  have C__law_raise_late := ok__law_raise_late (P := P) (w := w) (base := base) (k := 1) T (X_BadCondition.lift (by decide : 1 ≤ 1)) (X_BadLabel.lift (by decide : 1 ≤ 1)) (X_BadStep.lift (by decide : 1 ≤ 1)) (X_NoGuard.lift (by decide : 1 ≤ 1)) (X_NoLabel.lift (by decide : 1 ≤ 1)) (X_TooMuch.lift (by decide : 1 ≤ 1)) (X_WrongNumber.lift (by decide : 1 ≤ 1))
  have C__law_caught := ok__law_caught (P := P) (w := w) (base := base) (k := 3) T (C__law_raise_early.lift (by decide : 3 ≤ 3)) (C__law_raise_late.lift (by decide : 3 ≤ 3))
  have C__law_classes := ok__law_classes (P := P) (w := w) (base := base) (k := 0) T 
  have C__law_fields := ok__law_fields (P := P) (w := w) (base := base) (k := 0) T 
  have C__law_more := ok__law_more (P := P) (w := w) (base := base) (k := 0) T 
  have C__law_draw := ok__law_draw (P := P) (w := w) (base := base) (k := 1) T (C__law_more.lift (by decide : 1 ≤ 1))
  have C__law_key := ok__law_key (P := P) (w := w) (base := base) (k := 2) T (C__law_draw.lift (by decide : 2 ≤ 2))
  have C__law_path := ok__law_path (P := P) (w := w) (base := base) (k := 3) T (C__law_draw.lift (by decide : 2 ≤ 3)) (C__law_key.lift (by decide : 3 ≤ 3))
  have C__law_text := ok__law_text (P := P) (w := w) (base := base) (k := 2) T (C__law_draw.lift (by decide : 2 ≤ 2))
  have C__law_given := ok__law_given (P := P) (w := w) (base := base) (k := 4) T (C__law_draw.lift (by decide : 2 ≤ 4)) (C__law_key.lift (by decide : 3 ≤ 4)) (C__law_path.lift (by decide : 4 ≤ 4)) (C__law_text.lift (by decide : 3 ≤ 4))
  have C__law_like := ok__law_like (P := P) (w := w) (base := base) (k := 0) T 
  have C__law_made := ok__law_made (P := P) (w := w) (base := base) (k := 1) T (X_BadCondition.lift (by decide : 1 ≤ 1)) (X_BadKey.lift (by decide : 1 ≤ 1)) (X_BadLabel.lift (by decide : 1 ≤ 1)) (X_BadOption.lift (by decide : 1 ≤ 1)) (X_BadStep.lift (by decide : 1 ≤ 1)) (X_DoubleKey.lift (by decide : 1 ≤ 1)) (X_NoGuard.lift (by decide : 1 ≤ 1)) (X_NoKey.lift (by decide : 1 ≤ 1)) (X_NoLabel.lift (by decide : 1 ≤ 1)) (X_NotText.lift (by decide : 1 ≤ 1)) (X_Refused.lift (by decide : 1 ≤ 1)) (X_TooDeep.lift (by decide : 1 ≤ 1)) (X_TooMuch.lift (by decide : 1 ≤ 1)) (X_Unreadable.lift (by decide : 1 ≤ 1)) (X_Unwritable.lift (by decide : 1 ≤ 1)) (X_WrongNumber.lift (by decide : 1 ≤ 1))
  have C__law_source := ok__law_source (P := P) (w := w) (base := base) (k := 0) T 
  have C_law := ok_law (P := P) (w := w) (base := base) (k := 5) T (C__law_caught.lift (by decide : 4 ≤ 5)) (C__law_classes.lift (by decide : 1 ≤ 5)) (C__law_fields.lift (by decide : 1 ≤ 5)) (C__law_given.lift (by decide : 5 ≤ 5)) (C__law_like.lift (by decide : 1 ≤ 5)) (C__law_made.lift (by decide : 3 ≤ 5)) (C__law_source.lift (by decide : 1 ≤ 5))
  exact C_law
theorem endK {w : World} {K : PySem.W.Frag} {h : Heap} {mg : Str → Option Value} {fa : Addr} (X : K.In h) (G : h.Ns mainGlobals mg) (hfa : mg "law" = some (.ref fa)) (c : SaysB fbK fnK K) : ∃ (K : PySem.W.Frag) (fd : FuncData) (sp : Sp), K.In h ∧ (∀ (s : Shared) (u : Value), BindsTo s fd ⟨[u], []⟩ [("_law_script", u)]) ∧ (∀ (H : Hp) (a : Addr) (ns : List Int), ns.length ≤ 63 → Only H → SqL K H a (ns.map V.int) → sp [.ref a] H (fun v _ => v = .bl true) fun _ _ _ => False) ∧ ∀ base : Heap, K.In base → base.Ns mainGlobals mg → FnOk PySem.Challenge.rw_keysthroughtext_k98_errors_made.prog w K mg base (L2N.CX PySem.Challenge.rw_keysthroughtext_k98_errors_made.prog w) 6 fa fd ["_law_script"] sp := by
  have T := topK X G c
  obtain ⟨f, fd, F, g⟩ := T.d_law.ex
  have e := hfa.symm.trans g
  cases e
  obtain ⟨oc, od, kV, doc, pm, an, cdv, ct, osl, rfl, lk, hcd⟩ := id F.ex
  exact ⟨K, _, lSp K sp_law, X, fun s v => .of_eq rfl, fun H a ns hl _ hS => law_start hl hS, fun base _ _ => calleeT_fn F g (lawK T base)⟩
end K98
open PySem PySem.W PySem.Calls PyProof.Rows
set_option maxRecDepth 100000 in
set_option maxHeartbeats 0 in
theorem PySem.Challenge.cw_keysthroughtext_k98_errors_made_holds : PySem.Challenge.rw_keysthroughtext_k98_errors_made.Holds := by
  refine K98.finK.2 ?_
  delta K98.finK
  dsimp only
  refine KQ.walk_ofW (l := PySem.Challenge.rw_keysthroughtext_k98_errors_made) (n := 63) (k := 6) (x := "_law_script") (CX := fun w => L2N.CX PySem.Challenge.rw_keysthroughtext_k98_errors_made.prog w) rfl (by decide) (by kernel_rfl) ⟨rfl, by decide, by decide⟩ ?F (fun _ _ _ _ _ h => KQ.law_noexc h)
  intro w mg fa h Y G hmg0
  obtain ⟨KX, c0⟩ := Y
  have c := K98.saysX w h c0
  have hmg : mg ("law" : PySem.Str) = some (.ref fa) := by
    have e : (HandSHeadRun.topDef (OpenLaw.row PySem.Challenge.rw_keysthroughtext_k98_errors_made).prog 33).name = ("law" : PySem.Str) := by kernel_rfl
    rw [← e]
    exact hmg0
  exact K98.endK KX G hmg c
