import PyProof.Rows.All
import Wide.All
import OpenK.AllK
import Wide.FinOn
import HandS.Base
import HandS.Call
import HandS.Exc
import HandS.Defaults
import HandS.Head0
import HandS.Head1
import HandS.Head2
import HandS.HeadEnd
import HandS.HeadHook1
import HandS.HeadHook2
import HandS.HeadNt
import HandS.HeadHook4
import HandS.HeadHook3
import HandS.ForMost
import HandS.Wide
import HandS.IsInst
import HandS.StrMore
import HandS.Style
import HandS.RaiseMore
import HandS.EndBits
import HandS.Deep
import HandS.ReplaceLit
import HandS.ReplaceList
import HandS.ForExc
import HandS.CallSlots
import HandS.TryMany
import HandS.ExcInit
import HandS.Comp
import HandS.Iter
import HandS.ExcCtx
import HandS.TupAny
import HandS.More
import HandS.Zip
import HandS.SlotsOwn
import HandS.ExcField
import HandS.ExcIs
import KE.KExcIs
import HandS.MakeKwOnly
import HandS.ClsMeth
import HandS.NoneIn
import HandS.Conv
import KE.GoesEnum
import KE.KxField
import PyProof.FString3
import HandS.FStr
import KE.KOpsOwn
import KE.KCallOwn
import HandS.SetFor
import KE.OsRunLaw
import KE.KSortAsk
import HandS.SortKw
import HandS.SetKeys
import HandS.Lambda
import KE.KNestM
import KE.KSortTupAny
import HandS.SortRule
import HandS.Dict
import HandS.HotCalls
import HandS.SuiteRaise
import HandS.RaiseFrom
import HandS.ExcInitHot
import PyProof.RulesMatch
import HandS.Flow
import HandS.ExcBuiltin
import HandS.SortInts
import HandS.EndTab
import PySem.Challenge.RW_keysthroughtext_k16_whole_spoilt_texts
set_option Elab.async false
set_option linter.all false
set_option maxRecDepth 100000
set_option maxHeartbeats 4000000

namespace KQ
open PySem PySem.Spec PyProof.Rows L2
/-! ### a head by facts: functions by their names, everything else as Bools over the part -/
abbrev AlB : Type := Bool × List He5.FnW
def obsB (fb : PySem.W.Frag → List Bool) (fn : List He5.DefA) (K : PySem.W.Frag) : AlB := ((fb K).all id && fn.all fun d => d.ok K, fn.map fun d => He5.fnA K (d.at_ K))
def SaysB (fb : PySem.W.Frag → List Bool) (fn : List He5.DefA) (K : PySem.W.Frag) : Prop := obsB fb fn K = (true, fn.map He5.DefA.val)
/-! ### the head's run asked twice: what it looks like and the facts; the functions -/
def obsF (fn : List He5.DefA) (K : PySem.W.Frag) : AlB := (fn.all fun d => d.ok K, fn.map fun d => He5.fnA K (d.at_ K))
/-- a def by its place -/
def FA (p : Str × Option Str) (n q : Str) (st : Stmt) (dfl : List He.Dv) (kwd : List (Str × He.Dv)) : He5.DefA := ⟨fun K => He.fAd K p, n, q, defArgs st, defBody st, defScope st, dfl, kwd⟩
theorem obsB_split {fb : PySem.W.Frag → List Bool} {fn : List He5.DefA} {K : PySem.W.Frag} (h1 : (fb K).all id = true) (h2 : obsF fn K = (true, fn.map He5.DefA.val)) : obsB fb fn K = (true, fn.map He5.DefA.val) := by
  have e1 : (fn.all fun d => d.ok K) = true := congrArg (fun z : AlB => z.1) h2
  have e2 : (fn.map fun d => He5.fnA K (d.at_ K)) = fn.map He5.DefA.val := congrArg (fun z : AlB => z.2) h2
  unfold obsB
  rw [h1, e1, e2]; rfl
open PySem.W PySem.Calls in
def RunA (r : OpenRow) (q : Program) (ob1 : SharedT → Bool) (M : Nat) (loose : List PySem.Str) (w : World) : Prop :=
  ∀ os : OsState, (HandSHeadRun.endF (HandSHeadRun.stepQ (HandSHeadRun.denQ HandSHeadRun.tabQ) r.prog w) M r.prog w os).map (fun s => (HandSHeadRun.looksF r.prog (boot_heap w.params) s.abs, HandSHeadRun.seenQ q loose (importedModules r.prog.main.body) (fun s => xlAt q [] s && recOk r.toRowW.records s) s.abs, ob1 s)) = some (true, openGood q loose, true)
open PySem.W PySem.Calls in
def RunB {β : Type} (r : OpenRow) (ob2 : SharedT → β) (M : Nat) (w : World) (v : β) : Prop :=
  ∀ os : OsState, (HandSHeadRun.endF (HandSHeadRun.stepQ (HandSHeadRun.denQ HandSHeadRun.tabQ) r.prog w) M r.prog w os).map ob2 = some v
/-- an own exception class under ValueError -/
def oexB (K : PySem.W.Frag) (C : Addr) : Bool := match K.lookup C with
  | some ⟨.type "type", _, .cls cd, sl⟩ => (match cd.mro, sl.toList with
    | .ref C' :: bm, [_, _, _, _, some (.builtin n), _] => C' == C && n == "ValueError.__new__" && !cd.hasDel && cd.hasDict && PySem.HandSPX.refsVE bm
    | _, _ => false)
  | _ => false
/-! constants of the module -/
inductive Cs where
  | non
  | bl (b : Bool)
  | int (n : Int)
  | str (z : Str)
  | tup (xs : List Cs)
mutual
def csB (K : PySem.W.Frag) : Cs → Value → Bool
  | .non, u => (match u with | .none => true | _ => false)
  | .bl b, u => (match u with | .bool c => b == c | _ => false)
  | .int n, u => (match u with | .int m _ => decide (n = m) | _ => false)
  | .str z, u => (match u with | .str y _ => decide (z = y) | _ => false)
  | .tup xs, u => (match u with
    | .ref a => (match K.lookup a with
      | some ⟨.type c, _, .seq its _, _⟩ => decide (c = "tuple") && (decide (its.size ≤ sizeLine) && csL K xs its.toList)
      | _ => false)
    | _ => false)
def csL (K : PySem.W.Frag) : List Cs → List Value → Bool
  | [], us => us.isEmpty
  | x :: xs, us => (match us with
    | u :: us => csB K x u && csL K xs us
    | [] => false)
end
def gloB (K : PySem.W.Frag) (x : Str) (t : Cs) : Bool := match PySem.W.nsIn K mainGlobals x with
  | some (some u) => csB K t u
  | _ => false
end KQ
namespace KQ
open PySem PySem.Spec PyProof.Rows L2
/-! ### a head by facts, with empty tables of code objects left out of the part -/
def tabObj : Obj := { cls := .none, data := .fields #[] }
structure SaysTB (fb : PySem.W.Frag → List Bool) (fn : List He5.DefA) (tf : List He.Defn) (h : Heap) (K : PySem.W.Frag) : Prop where
  s : SaysB fb fn K
  hd : ∀ p ∈ tf, PySem.W.codeHdIn K (He.cT K p).1 (He.cT K p).2 = true
  out : ∀ p ∈ tf, K.lookup (He.cT K p).2 = none
  empty : ∀ p ∈ tf, h.get? (He.cT K p).2 = some { cls := .none, data := .fields #[] }
/-! ### .. with dicts of the module, whose keys' hashes the world gives -/
def tabB (K : PySem.W.Frag) (d : Addr) (kvs : List (Str × Cs)) : Bool := kvs.all fun q => match PySem.W.nsIn K d q.1 with
  | some (some u) => csB K q.2 u
  | _ => false
abbrev TabN : Type := Str × List Str
def tabW (ts : List TabN) (K : PySem.W.Frag) : List (Option (List (Option (Str × Int)))) := ts.map fun t => He.dicW K (He.ga K t.1)
structure SaysTW (fb : PySem.W.Frag → List Bool) (fn : List He5.DefA) (tf : List He.Defn) (ts : List TabN) (w : World) (h : Heap) (K : PySem.W.Frag) : Prop where
  b : SaysTB fb fn tf h K
  t : tabW ts K = ts.map fun t => some (He.keysIn w.params t.2)
/-! ### look-ups off the tree, by a mask of the addresses -/
open PySem.W PySem.Calls in
/-- the run's looks alone -/
def RunL (r : OpenRow) (q : Program) (M : Nat) (loose : List PySem.Str) (w : World) : Prop :=
  ∀ os : OsState, (HandSHeadRun.endF (HandSHeadRun.stepQ (HandSHeadRun.denQ HandSHeadRun.tabQ) r.prog w) M r.prog w os).map (fun s => (HandSHeadRun.looksF r.prog (boot_heap w.params) s.abs, HandSHeadRun.seenQ q loose (importedModules r.prog.main.body) (fun s => xlAt q [] s && recOk r.toRowW.records s) s.abs)) = some (true, openGood q loose)
open PySem.W PySem.Calls in
theorem RunL.and {r : OpenRow} {q : Program} {M : Nat} {loose : List PySem.Str} {w : World} {ob : SharedT → Bool} (a : RunL r q M loose w) (b : RunB r ob M w true) : RunA r q ob M loose w := by
  intro os
  have ha := a os
  have hb := b os
  cases e : HandSHeadRun.endF (HandSHeadRun.stepQ (HandSHeadRun.denQ HandSHeadRun.tabQ) r.prog w) M r.prog w os with
  | none => rw [e] at hb; cases hb
  | some s =>
    rw [e] at ha hb
    have ea := Option.some.inj ha
    have eb : ob s = true := Option.some.inj hb
    have e1 := congrArg (fun z => z.1) ea
    have e2 := congrArg (fun z => z.2) ea
    simp only [] at e1 e2
    rw [Option.map_some, e1, e2, eb]
open PySem.W PySem.Calls in
theorem RunB.and {r : OpenRow} {M : Nat} {w : World} {o1 o2 o : SharedT → Bool} (a : RunB r o1 M w true) (b : RunB r o2 M w true) (k : ∀ s, o1 s = true → o2 s = true → o s = true) : RunB r o M w true := by
  intro os
  have ha := a os
  have hb := b os
  cases e : HandSHeadRun.endF (HandSHeadRun.stepQ (HandSHeadRun.denQ HandSHeadRun.tabQ) r.prog w) M r.prog w os with
  | none => rw [e] at hb; cases hb
  | some s =>
    rw [e] at ha hb
    rw [Option.map_some, k s (Option.some.inj ha) (Option.some.inj hb)]
open PySem.W PySem.Calls in
theorem RunB.to {β : Type} {r : OpenRow} {M : Nat} {w : World} {o1 o : SharedT → β} {v : β} (a : RunB r o1 M w v) (k : ∀ s, o s = o1 s) : RunB r o M w v := by
  rw [show o = o1 from funext k]; exact a
theorem all_cut {l : List Bool} (n : Nat) (h1 : (l.take n).all id = true) (h2 : (l.drop n).all id = true) : l.all id = true := by
  rw [← List.take_append_drop n l, List.all_append, h1, h2]; rfl
end KQ
namespace KQ
open PySem PySem.Spec PyProof.Rows L2
/-! ### a head whose objects are written out -/
def DE (w : World) (k : Str) (t : Tok) (v : Value) : DictEntry := ⟨PyData.keyHash w.params k, .str k t, v⟩
def FD (st : Stmt) (n q : Str) (g : Addr) (cl : List (Str × Addr)) (d kw doc pm : Value) (an : Option Addr) (code ct : Value) (b : Addr) : Data :=
  .func ⟨n, q, defArgs st, .stmts (defBody st), defScope st, g, cl, d, kw, doc, pm, an, code, ct, b⟩
/-- a code object, a plain function -/
def CO (n q : Str) (t : Tok) (l a b c d : Int) (r : Addr) (e : Int) (r2 : Addr) (u v x : Value) (r3 : Addr) (y : Int) (t2 : Tok) : Obj :=
  ⟨.type "code", none, .fields #[.str n t, .str q (t + 1), .str "/claim/cut.py" (t + 2), .int l 0, .int a 0, .int b 0, .int c 0, .int d 0, .ref r, .bool true, .int e 0, .ref r2, u, v, x, .ref r3, .int y 0, .int l 0, .str "/claim/cut.py" t2], #[]⟩
def FN (st : Stmt) (n q m : Str) (t : Tok) (c : Addr) : Obj := ⟨.type "function", none, FD st n q 3 [] .none .none .none (.str m t) none (.ref c) .none 0, #[]⟩
def hookL (as : List Addr) (KL : World → PySem.W.Frag) (tl : List Addr) (hk : ∀ w, as = (KL w).map (·.1)) : PySem.W.Hook where
  α := List (Option Obj) × List (Option Obj)
  obs := fun s => (as.map s.heap.get?, tl.map s.heap.get?)
  val := fun w => ((KL w).map fun p => some p.2, tl.map fun _ => some tabObj)
  says := fun w h => (KL w).In h ∧ ∀ a ∈ tl, h.get? a = some tabObj
  of := fun w s e => ⟨PySem.W.Frag.in_of (hk w) (congrArg (fun z => z.1) e), fun a ha => by
    have e2 : tl.map s.heap.get? = tl.map fun _ => some tabObj := congrArg (fun z => z.2) e
    exact List.map_inj_left.mp e2 a ha⟩
  keeps := fun w h h' ⟨a, b⟩ k => ⟨PySem.W.Frag.In.keeps a k, fun x hx => k _ _ (b x hx)⟩
def obL (as tl : List Addr) (s : PySem.W.SharedT) : List (Option Obj) × List (Option Obj) := (as.map (HandSHeadRun.getT s), tl.map (HandSHeadRun.getT s))
theorem obL_eq {as tl : List Addr} {KL : World → PySem.W.Frag} {hk : ∀ w, as = (KL w).map (·.1)} (s : PySem.W.SharedT) : obL as tl s = (hookL as KL tl hk).obs s.abs := by
  unfold obL
  rw [show HandSHeadRun.getT s = s.abs.heap.get? from funext (HandSHeadRun.getT_eq s)]
  rfl
theorem fn_cut {fn : List He5.DefA} {K : PySem.W.Frag} (n : Nat) (h1 : obsF (fn.take n) K = (true, (fn.take n).map He5.DefA.val)) (h2 : obsF (fn.drop n) K = (true, (fn.drop n).map He5.DefA.val)) : obsF fn K = (true, fn.map He5.DefA.val) := by
  have a1 : ((fn.take n).all fun d => d.ok K) = true := congrArg (fun z : AlB => z.1) h1
  have a2 : ((fn.take n).map fun d => He5.fnA K (d.at_ K)) = (fn.take n).map He5.DefA.val := congrArg (fun z : AlB => z.2) h1
  have b1 : ((fn.drop n).all fun d => d.ok K) = true := congrArg (fun z : AlB => z.1) h2
  have b2 : ((fn.drop n).map fun d => He5.fnA K (d.at_ K)) = (fn.drop n).map He5.DefA.val := congrArg (fun z : AlB => z.2) h2
  unfold obsF
  refine Prod.ext ?_ ?_
  · show (fn.all fun d => d.ok K) = true
    rw [← List.take_append_drop n fn, List.all_append, a1, b1]; rfl
  · show (fn.map fun d => He5.fnA K (d.at_ K)) = fn.map He5.DefA.val
    rw [← List.take_append_drop n fn, List.map_append, List.map_append, a2, b2]
theorem saysB_lit {fb : PySem.W.Frag → List Bool} {fn : List He5.DefA} {K : PySem.W.Frag} (h1 : (fb K).all id = true) (h2 : obsF fn K = (true, fn.map He5.DefA.val)) : SaysB fb fn K := obsB_split h1 h2
theorem saysTB_lit0 {fb : PySem.W.Frag → List Bool} {fn : List He5.DefA} {h : Heap} {K : PySem.W.Frag} (s : SaysB fb fn K) : SaysTB fb fn [] h K where
  s := s
  hd := fun q hq => nomatch hq
  out := fun q hq => nomatch hq
  empty := fun q hq => nomatch hq
end KQ

namespace K16
open PySem PySem.Spec PyProof.Rows L2 KQ
section
open PySem PySem.W PySem.Calls PyProof.Rows
set_option maxRecDepth 100000 in
set_option maxHeartbeats 0 in
theorem lookK (h : (OpenLaw.row PySem.Challenge.rw_keysthroughtext_k16_whole_spoilt_texts).wellSaid = true → (OpenLaw.row PySem.Challenge.rw_keysthroughtext_k16_whole_spoilt_texts).Holds) : PySem.Challenge.rw_keysthroughtext_k16_whole_spoilt_texts.Holds := by
  w_on; o_law
  exact h (by assumption)
end
def topS (i : Nat) : Stmt := PySem.Challenge.pw_keysthroughtext_k16_whole_spoilt_texts.main.body.getD i (.Pass ⟨0, 0, 0, 0⟩)
abbrev s__law_more : Stmt := topS 14
abbrev s__law_draw : Stmt := topS 15
abbrev s__law_loose_sign : Stmt := topS 27
abbrev s__law_changed : Stmt := topS 35
abbrev s__law_number : Stmt := topS 16
abbrev s__law_sign : Stmt := topS 17
abbrev s__law_text : Stmt := topS 18
abbrev s__law_key : Stmt := topS 19
abbrev s__law_leaf : Stmt := topS 20
abbrev s__law_raw : Stmt := topS 21
abbrev s__law_raw_deep : Stmt := topS 22
abbrev s_Scanner_here : Stmt := inClass (topS 10) 1
abbrev s_NotText___init__ : Stmt := inClass (topS 2) 0
abbrev s_Scanner_expect : Stmt := inClass (topS 10) 3
abbrev s_Scanner_read_string : Stmt := inClass (topS 10) 6
abbrev s_Scanner_skip_blanks : Stmt := inClass (topS 10) 2
abbrev s_TooDeep___init__ : Stmt := inClass (topS 3) 0
abbrev s_Scanner_read_number : Stmt := inClass (topS 10) 5
abbrev s_Scanner_read_word : Stmt := inClass (topS 10) 4
abbrev s_Scanner_read_member : Stmt := inClass (topS 10) 8
abbrev s_Scanner_read_members : Stmt := inClass (topS 10) 9
abbrev s_Scanner_read_value : Stmt := inClass (topS 10) 7
abbrev s_Scanner___init__ : Stmt := inClass (topS 10) 0
abbrev s_parse : Stmt := topS 11
abbrev s__law_read : Stmt := topS 28
abbrev s__law_after : Stmt := topS 30
abbrev s__law_begin : Stmt := topS 29
abbrev s__law_inside : Stmt := topS 31
abbrev s__law_token : Stmt := topS 32
abbrev s__law_step : Stmt := topS 33
abbrev s__law_scanned : Stmt := topS 34
abbrev s__law_source : Stmt := topS 13
abbrev s__law_spaced : Stmt := topS 25
abbrev s__law_squeezed : Stmt := topS 26
abbrev s__law_own_string : Stmt := topS 23
abbrev s__law_tokens : Stmt := topS 24
abbrev s_render_string : Stmt := topS 8
abbrev s_render : Stmt := topS 9
abbrev s_law : Stmt := topS 36
def fbK (K : PySem.W.Frag) : List Bool := [
  decide (PySem.W.nsIn K mainGlobals "abs" = some none),
  decide (PySem.W.nsIn K mainGlobals "all" = some none),
  decide (PySem.W.nsIn K mainGlobals "any" = some none),
  decide (PySem.W.nsIn K mainGlobals "bool" = some none),
  decide (PySem.W.nsIn K mainGlobals "enumerate" = some none),
  decide (PySem.W.nsIn K mainGlobals "int" = some none),
  decide (PySem.W.nsIn K mainGlobals "isinstance" = some none),
  decide (PySem.W.nsIn K mainGlobals "len" = some none),
  decide (PySem.W.nsIn K mainGlobals "list" = some none),
  decide (PySem.W.nsIn K mainGlobals "max" = some none),
  decide (PySem.W.nsIn K mainGlobals "min" = some none),
  decide (PySem.W.nsIn K mainGlobals "range" = some none),
  decide (PySem.W.nsIn K mainGlobals "set" = some none),
  decide (PySem.W.nsIn K mainGlobals "sorted" = some none),
  decide (PySem.W.nsIn K mainGlobals "str" = some none),
  decide (PySem.W.nsIn K mainGlobals "tuple" = some none),
  decide (PySem.W.nsIn K mainGlobals "zip" = some none),
  decide (PySem.W.nsIn K mainGlobals "iter" = some none),
  decide (PySem.W.nsIn K mainGlobals "ValueError" = some none),
  decide (PySem.W.nsIn K mainGlobals "sum" = some none),
  decide (PySem.W.nsIn K mainGlobals "dict" = some none),
  decide (PySem.W.nsIn K mainGlobals "_law_more" = some (some (.ref (He.ga K "_law_more")))),
  decide (PySem.W.nsIn K mainGlobals "_law_draw" = some (some (.ref (He.ga K "_law_draw")))),
  decide (PySem.W.nsIn K mainGlobals "_law_loose_sign" = some (some (.ref (He.ga K "_law_loose_sign")))),
  decide (PySem.W.nsIn K mainGlobals "_law_changed" = some (some (.ref (He.ga K "_law_changed")))),
  decide (PySem.W.nsIn K mainGlobals "_law_number" = some (some (.ref (He.ga K "_law_number")))),
  decide (PySem.W.nsIn K mainGlobals "_law_sign" = some (some (.ref (He.ga K "_law_sign")))),
  decide (PySem.W.nsIn K mainGlobals "_law_text" = some (some (.ref (He.ga K "_law_text")))),
  decide (PySem.W.nsIn K mainGlobals "_law_key" = some (some (.ref (He.ga K "_law_key")))),
  decide (PySem.W.nsIn K mainGlobals "_law_leaf" = some (some (.ref (He.ga K "_law_leaf")))),
  decide (PySem.W.nsIn K mainGlobals "_law_raw" = some (some (.ref (He.ga K "_law_raw")))),
  decide (PySem.W.nsIn K mainGlobals "_law_raw_deep" = some (some (.ref (He.ga K "_law_raw_deep")))),
  decide (PySem.W.findIn K (.ref (He.ga K "Scanner")) "here" = some (some (.ref (He.ma K (He.ga K "Scanner") "here")))),
  decide (PySem.W.isFn K (.ref (He.ma K (He.ga K "Scanner") "here")) = true),
  decide (PySem.W.findIn K (.ref (He.ga K "NotText")) "__init__" = some (some (.ref (He.ma K (He.ga K "NotText") "__init__")))),
  decide (PySem.W.isFn K (.ref (He.ma K (He.ga K "NotText") "__init__")) = true),
  decide (PySem.W.findIn K (.ref (He.ga K "Scanner")) "expect" = some (some (.ref (He.ma K (He.ga K "Scanner") "expect")))),
  decide (PySem.W.isFn K (.ref (He.ma K (He.ga K "Scanner") "expect")) = true),
  decide (PySem.W.findIn K (.ref (He.ga K "Scanner")) "read_string" = some (some (.ref (He.ma K (He.ga K "Scanner") "read_string")))),
  decide (PySem.W.isFn K (.ref (He.ma K (He.ga K "Scanner") "read_string")) = true),
  decide (PySem.W.findIn K (.ref (He.ga K "Scanner")) "skip_blanks" = some (some (.ref (He.ma K (He.ga K "Scanner") "skip_blanks")))),
  decide (PySem.W.isFn K (.ref (He.ma K (He.ga K "Scanner") "skip_blanks")) = true),
  decide (PySem.W.findIn K (.ref (He.ga K "TooDeep")) "__init__" = some (some (.ref (He.ma K (He.ga K "TooDeep") "__init__")))),
  decide (PySem.W.isFn K (.ref (He.ma K (He.ga K "TooDeep") "__init__")) = true),
  decide (PySem.W.findIn K (.ref (He.ga K "Scanner")) "read_number" = some (some (.ref (He.ma K (He.ga K "Scanner") "read_number")))),
  decide (PySem.W.isFn K (.ref (He.ma K (He.ga K "Scanner") "read_number")) = true),
  decide (PySem.W.findIn K (.ref (He.ga K "Scanner")) "read_word" = some (some (.ref (He.ma K (He.ga K "Scanner") "read_word")))),
  decide (PySem.W.isFn K (.ref (He.ma K (He.ga K "Scanner") "read_word")) = true),
  decide (PySem.W.findIn K (.ref (He.ga K "Scanner")) "read_member" = some (some (.ref (He.ma K (He.ga K "Scanner") "read_member")))),
  decide (PySem.W.isFn K (.ref (He.ma K (He.ga K "Scanner") "read_member")) = true),
  decide (PySem.W.findIn K (.ref (He.ga K "Scanner")) "read_members" = some (some (.ref (He.ma K (He.ga K "Scanner") "read_members")))),
  decide (PySem.W.isFn K (.ref (He.ma K (He.ga K "Scanner") "read_members")) = true),
  decide (PySem.W.findIn K (.ref (He.ga K "Scanner")) "read_value" = some (some (.ref (He.ma K (He.ga K "Scanner") "read_value")))),
  decide (PySem.W.isFn K (.ref (He.ma K (He.ga K "Scanner") "read_value")) = true),
  decide (PySem.W.findIn K (.ref (He.ga K "Scanner")) "__init__" = some (some (.ref (He.ma K (He.ga K "Scanner") "__init__")))),
  decide (PySem.W.isFn K (.ref (He.ma K (He.ga K "Scanner") "__init__")) = true),
  decide (PySem.W.nsIn K mainGlobals "parse" = some (some (.ref (He.ga K "parse")))),
  decide (PySem.W.nsIn K mainGlobals "_law_read" = some (some (.ref (He.ga K "_law_read")))),
  decide (PySem.W.nsIn K mainGlobals "_law_after" = some (some (.ref (He.ga K "_law_after")))),
  decide (PySem.W.nsIn K mainGlobals "_law_begin" = some (some (.ref (He.ga K "_law_begin")))),
  decide (PySem.W.nsIn K mainGlobals "_law_inside" = some (some (.ref (He.ga K "_law_inside")))),
  decide (PySem.W.nsIn K mainGlobals "_law_token" = some (some (.ref (He.ga K "_law_token")))),
  decide (PySem.W.nsIn K mainGlobals "_law_step" = some (some (.ref (He.ga K "_law_step")))),
  decide (PySem.W.nsIn K mainGlobals "_law_scanned" = some (some (.ref (He.ga K "_law_scanned")))),
  decide (PySem.W.nsIn K mainGlobals "_law_source" = some (some (.ref (He.ga K "_law_source")))),
  decide (PySem.W.nsIn K mainGlobals "_law_spaced" = some (some (.ref (He.ga K "_law_spaced")))),
  decide (PySem.W.nsIn K mainGlobals "_law_squeezed" = some (some (.ref (He.ga K "_law_squeezed")))),
  decide (PySem.W.nsIn K mainGlobals "_law_own_string" = some (some (.ref (He.ga K "_law_own_string")))),
  decide (PySem.W.nsIn K mainGlobals "_law_tokens" = some (some (.ref (He.ga K "_law_tokens")))),
  decide (PySem.W.nsIn K mainGlobals "render_string" = some (some (.ref (He.ga K "render_string")))),
  decide (PySem.W.nsIn K mainGlobals "render" = some (some (.ref (He.ga K "render")))),
  decide (PySem.W.nsIn K mainGlobals "law" = some (some (.ref (He.ga K "law")))),
  decide (PySem.W.nsIn K mainGlobals "Scanner" = some (some (.ref (He.ga K "Scanner")))),
  decide (PySem.W.plainGet K (He.ga K "Scanner") Str.empty = true),
  decide (PySem.W.hasDictIn K (He.ga K "Scanner") = true),
  decide (PySem.W.plainOver K (He.ga K "Scanner") = true),
  decide (PySem.W.findIn K (.ref (He.ga K "Scanner")) "__setattr__" = some (some (.builtin "object.__setattr__"))),
  decide (PySem.W.findIn K (.ref (He.ga K "Scanner")) "__class__" = some (some (.builtin "object.__class__"))),
  decide (PySem.W.specialIn K (.builtin "object.__class__") "__get__" = some (some (.builtin "getset_descriptor.__get__"))),
  decide (PySem.W.takesIn K (.builtin "object.__class__") = some true),
  decide (PySem.W.mroIn K (He.ga K "Scanner") (.type "object") = some true),
  decide (PySem.W.keepIn K (.ref (He.ga K "Scanner")) = true),
  decide (PySem.W.makesIn K (He.ga K "Scanner") = true),
  decide (PySem.W.nsIn K mainGlobals "KeysError" = some (some (.ref (He.ga K "KeysError")))),
  decide (PySem.W.nsIn K mainGlobals "NotText" = some (some (.ref (He.ga K "NotText")))),
  decide (PySem.W.nsIn K mainGlobals "TooDeep" = some (some (.ref (He.ga K "TooDeep")))),
  oexB K (He.ga K "NotText"),
  decide (PySem.W.findIn K (.ref (He.ga K "NotText")) "__setattr__" = some (some (.builtin "object.__setattr__"))),
  decide (PySem.W.subIn K (.ref (He.ga K "NotText")) (.type "BaseException") = some true),
  decide (PySem.W.typeIn K (.ref (He.ga K "NotText")) = some (.type "type")),
  decide (PySem.W.keepIn K (.ref (He.ga K "NotText")) = true),
  oexB K (He.ga K "TooDeep"),
  decide (PySem.W.findIn K (.ref (He.ga K "TooDeep")) "__setattr__" = some (some (.builtin "object.__setattr__"))),
  decide (PySem.W.subIn K (.ref (He.ga K "TooDeep")) (.type "BaseException") = some true),
  decide (PySem.W.typeIn K (.ref (He.ga K "TooDeep")) = some (.type "type")),
  decide (PySem.W.keepIn K (.ref (He.ga K "TooDeep")) = true),
  decide (PySem.W.findIn K (.ref (He.ga K "Scanner")) "text" = some none),
  decide (PySem.W.findIn K (.ref (He.ga K "Scanner")) "at" = some none),
  decide (PySem.W.findIn K (.ref (He.ga K "Scanner")) "depth" = some none),
  decide (PySem.W.kitOne K (.type "NoneType") (.ref (He.ga K "Scanner")) = some false),
  decide (PySem.W.kitOne K (.type "bool") (.ref (He.ga K "Scanner")) = some false),
  decide (PySem.W.kitOne K (.ref (He.ga K "Scanner")) (.type "bool") = some false),
  decide (PySem.W.kitOne K (.type "int") (.ref (He.ga K "Scanner")) = some false),
  decide (PySem.W.kitOne K (.ref (He.ga K "Scanner")) (.type "int") = some false),
  decide (PySem.W.kitOne K (.type "str") (.ref (He.ga K "Scanner")) = some false),
  decide (PySem.W.kitOne K (.ref (He.ga K "Scanner")) (.type "str") = some false),
  decide (PySem.W.kitOne K (.type "list") (.ref (He.ga K "Scanner")) = some false),
  decide (PySem.W.kitOne K (.ref (He.ga K "Scanner")) (.type "list") = some false),
  decide (PySem.W.kitOne K (.type "tuple") (.ref (He.ga K "Scanner")) = some false),
  decide (PySem.W.kitOne K (.ref (He.ga K "Scanner")) (.type "tuple") = some false),
  decide (PySem.W.kitOne K (.type "dict") (.ref (He.ga K "Scanner")) = some false),
  decide (PySem.W.kitOne K (.ref (He.ga K "Scanner")) (.ref (He.ga K "Scanner")) = some true),
  decide (PySem.W.findIn K (.ref (He.ga K "NotText")) "__getattribute__" = some (some (.builtin "BaseException.__getattribute__"))),
  decide (PySem.W.findIn K (.ref (He.ga K "NotText")) "__getattr__" = some none),
  decide (PySem.W.hasDictIn K (He.ga K "NotText") = true),
  decide (PySem.W.findIn K (.ref (He.ga K "NotText")) "__class__" = some (some (.builtin "object.__class__"))),
  decide (PySem.W.mroIn K (He.ga K "NotText") (.type "object") = some true),
  decide (PySem.W.findIn K (.ref (He.ga K "NotText")) "position" = some none),
  decide (PySem.W.exmOne K (.ref (He.ga K "NotText")) (.ref (He.ga K "KeysError")) = some true),
  decide (PySem.W.exmOne K (.ref (He.ga K "NotText")) (.ref (He.ga K "NotText")) = some true),
  decide (PySem.W.exmOne K (.ref (He.ga K "NotText")) (.ref (He.ga K "TooDeep")) = some false),
  decide (PySem.W.findIn K (.ref (He.ga K "TooDeep")) "__getattribute__" = some (some (.builtin "BaseException.__getattribute__"))),
  decide (PySem.W.findIn K (.ref (He.ga K "TooDeep")) "__getattr__" = some none),
  decide (PySem.W.hasDictIn K (He.ga K "TooDeep") = true),
  decide (PySem.W.findIn K (.ref (He.ga K "TooDeep")) "__class__" = some (some (.builtin "object.__class__"))),
  decide (PySem.W.mroIn K (He.ga K "TooDeep") (.type "object") = some true),
  decide (PySem.W.findIn K (.ref (He.ga K "TooDeep")) "position" = some none),
  decide (PySem.W.exmOne K (.ref (He.ga K "TooDeep")) (.ref (He.ga K "KeysError")) = some true),
  decide (PySem.W.exmOne K (.ref (He.ga K "TooDeep")) (.ref (He.ga K "NotText")) = some false),
  decide (PySem.W.exmOne K (.ref (He.ga K "TooDeep")) (.ref (He.ga K "TooDeep")) = some true),
  gloB K "MOST_DIGITS" (.int 30),
  gloB K "DEEPEST" (.int 60),
  decide (PySem.W.nsIn K mainGlobals "WORDS" = some (some (.ref (He.ga K "WORDS")))),
  tabB K (He.ga K "WORDS") [("n", .tup [.str "null", .non]), ("t", .tup [.str "true", .bl true]), ("f", .tup [.str "false", .bl false])]]
def fnK : List He5.DefA := [
  FA ("_law_more", none) "_law_more" "_law_more" s__law_more [] [],
  FA ("_law_draw", none) "_law_draw" "_law_draw" s__law_draw [] [],
  FA ("_law_loose_sign", none) "_law_loose_sign" "_law_loose_sign" s__law_loose_sign [] [],
  FA ("_law_changed", none) "_law_changed" "_law_changed" s__law_changed [] [],
  FA ("_law_number", none) "_law_number" "_law_number" s__law_number [] [],
  FA ("_law_sign", none) "_law_sign" "_law_sign" s__law_sign [] [],
  FA ("_law_text", none) "_law_text" "_law_text" s__law_text [] [],
  FA ("_law_key", none) "_law_key" "_law_key" s__law_key [] [],
  FA ("_law_leaf", none) "_law_leaf" "_law_leaf" s__law_leaf [] [],
  FA ("_law_raw", none) "_law_raw" "_law_raw" s__law_raw [] [],
  FA ("_law_raw_deep", none) "_law_raw_deep" "_law_raw_deep" s__law_raw_deep [] [],
  FA ("Scanner", some "here") "here" "Scanner.here" s_Scanner_here [] [],
  FA ("NotText", some "__init__") "__init__" "NotText.__init__" s_NotText___init__ [] [],
  FA ("Scanner", some "expect") "expect" "Scanner.expect" s_Scanner_expect [] [],
  FA ("Scanner", some "read_string") "read_string" "Scanner.read_string" s_Scanner_read_string [] [],
  FA ("Scanner", some "skip_blanks") "skip_blanks" "Scanner.skip_blanks" s_Scanner_skip_blanks [] [],
  FA ("TooDeep", some "__init__") "__init__" "TooDeep.__init__" s_TooDeep___init__ [] [],
  FA ("Scanner", some "read_number") "read_number" "Scanner.read_number" s_Scanner_read_number [] [],
  FA ("Scanner", some "read_word") "read_word" "Scanner.read_word" s_Scanner_read_word [] [],
  FA ("Scanner", some "read_member") "read_member" "Scanner.read_member" s_Scanner_read_member [] [],
  FA ("Scanner", some "read_members") "read_members" "Scanner.read_members" s_Scanner_read_members [] [],
  FA ("Scanner", some "read_value") "read_value" "Scanner.read_value" s_Scanner_read_value [] [],
  FA ("Scanner", some "__init__") "__init__" "Scanner.__init__" s_Scanner___init__ [] [],
  FA ("parse", none) "parse" "parse" s_parse [] [],
  FA ("_law_read", none) "_law_read" "_law_read" s__law_read [] [],
  FA ("_law_after", none) "_law_after" "_law_after" s__law_after [] [],
  FA ("_law_begin", none) "_law_begin" "_law_begin" s__law_begin [] [],
  FA ("_law_inside", none) "_law_inside" "_law_inside" s__law_inside [] [],
  FA ("_law_token", none) "_law_token" "_law_token" s__law_token [] [],
  FA ("_law_step", none) "_law_step" "_law_step" s__law_step [] [],
  FA ("_law_scanned", none) "_law_scanned" "_law_scanned" s__law_scanned [] [],
  FA ("_law_source", none) "_law_source" "_law_source" s__law_source [] [],
  FA ("_law_spaced", none) "_law_spaced" "_law_spaced" s__law_spaced [] [],
  FA ("_law_squeezed", none) "_law_squeezed" "_law_squeezed" s__law_squeezed [] [],
  FA ("_law_own_string", none) "_law_own_string" "_law_own_string" s__law_own_string [] [],
  FA ("_law_tokens", none) "_law_tokens" "_law_tokens" s__law_tokens [] [],
  FA ("render_string", none) "render_string" "render_string" s_render_string [] [],
  FA ("render", none) "render" "render" s_render [] [],
  FA ("law", none) "law" "law" s_law [] []]
def KL4 (w : World) : PySem.W.Frag := []
def KL3 (w : World) : PySem.W.Frag :=
  (108, CO "skip_blanks" "Scanner.skip_blanks" 313 43 1 0 0 3 103 181 104 .none (.ref 105) (.ref 106) 107 317 318) ::
  (115, CO "expect" "Scanner.expect" 320 47 2 0 0 3 110 181 111 .none (.ref 112) (.ref 113) 114 325 326) ::
  (122, CO "read_word" "Scanner.read_word" 328 52 1 0 0 3 117 181 118 .none (.ref 119) (.ref 120) 121 335 336) ::
  (129, CO "read_number" "Scanner.read_number" 338 58 1 0 0 3 124 181 125 .none (.ref 126) (.ref 127) 128 344 345) ::
  (136, CO "read_string" "Scanner.read_string" 347 73 1 0 0 3 131 181 132 .none (.ref 133) (.ref 134) 135 353 354) ::
  (141, CO "read_value" "Scanner.read_value" 356 89 1 0 0 3 138 181 139 .none .none .none 140 359 360) ::
  (148, CO "read_member" "Scanner.read_member" 362 102 2 0 0 3 143 181 144 .none (.ref 145) (.ref 146) 147 368 369) ::
  (155, CO "read_members" "Scanner.read_members" 371 111 2 0 0 3 150 181 151 .none (.ref 152) (.ref 153) 154 377 378) ::
  (154, ⟨.none, none, (FD (inClass (topS 10) 9) "read_members" "Scanner.read_members" 0 [] (.none) (.none) (.none) (.none) none (.none) (.none) 0), #[]⟩) ::
  (147, ⟨.none, none, (FD (inClass (topS 10) 8) "read_member" "Scanner.read_member" 0 [] (.none) (.none) (.none) (.none) none (.none) (.none) 0), #[]⟩) ::
  (140, ⟨.none, none, (FD (inClass (topS 10) 7) "read_value" "Scanner.read_value" 0 [] (.none) (.none) (.none) (.none) none (.none) (.none) 0), #[]⟩) ::
  (135, ⟨.none, none, (FD (inClass (topS 10) 6) "read_string" "Scanner.read_string" 0 [] (.none) (.none) (.none) (.none) none (.none) (.none) 0), #[]⟩) ::
  (128, ⟨.none, none, (FD (inClass (topS 10) 5) "read_number" "Scanner.read_number" 0 [] (.none) (.none) (.none) (.none) none (.none) (.none) 0), #[]⟩) ::
  (121, ⟨.none, none, (FD (inClass (topS 10) 4) "read_word" "Scanner.read_word" 0 [] (.none) (.none) (.none) (.none) none (.none) (.none) 0), #[]⟩) ::
  (114, ⟨.none, none, (FD (inClass (topS 10) 3) "expect" "Scanner.expect" 0 [] (.none) (.none) (.none) (.none) none (.none) (.none) 0), #[]⟩) ::
  (107, ⟨.none, none, (FD (inClass (topS 10) 2) "skip_blanks" "Scanner.skip_blanks" 0 [] (.none) (.none) (.none) (.none) none (.none) (.none) 0), #[]⟩) ::
  (100, ⟨.none, none, (FD (inClass (topS 10) 1) "here" "Scanner.here" 0 [] (.none) (.none) (.none) (.none) none (.none) (.none) 0), #[]⟩) ::
  (93, ⟨.none, none, (FD (inClass (topS 10) 0) "__init__" "Scanner.__init__" 0 [] (.none) (.none) (.none) (.none) none (.none) (.none) 0), #[]⟩) ::
  (58, ⟨.none, none, (FD (inClass (topS 3) 0) "__init__" "TooDeep.__init__" 0 [] (.none) (.none) (.none) (.none) none (.none) (.none) 0), #[]⟩) ::
  (39, ⟨.none, none, (FD (inClass (topS 2) 0) "__init__" "NotText.__init__" 0 [] (.none) (.none) (.none) (.none) none (.none) (.none) 0), #[]⟩) ::
  (2, ⟨.none, none, (.dict #[] 0), #[]⟩) :: KL4 w
def KL2 (w : World) : PySem.W.Frag :=
  (260, ⟨.none, none, (FD (topS 26) "_law_squeezed" "_law_squeezed" 0 [] (.none) (.none) (.none) (.none) none (.none) (.none) 0), #[]⟩) ::
  (253, ⟨.none, none, (FD (topS 25) "_law_spaced" "_law_spaced" 0 [] (.none) (.none) (.none) (.none) none (.none) (.none) 0), #[]⟩) ::
  (246, ⟨.none, none, (FD (topS 24) "_law_tokens" "_law_tokens" 0 [] (.none) (.none) (.none) (.none) none (.none) (.none) 0), #[]⟩) ::
  (239, ⟨.none, none, (FD (topS 23) "_law_own_string" "_law_own_string" 0 [] (.none) (.none) (.none) (.none) none (.none) (.none) 0), #[]⟩) ::
  (232, ⟨.none, none, (FD (topS 22) "_law_raw_deep" "_law_raw_deep" 0 [] (.none) (.none) (.none) (.none) none (.none) (.none) 0), #[]⟩) ::
  (225, ⟨.none, none, (FD (topS 21) "_law_raw" "_law_raw" 0 [] (.none) (.none) (.none) (.none) none (.none) (.none) 0), #[]⟩) ::
  (220, ⟨.none, none, (FD (topS 20) "_law_leaf" "_law_leaf" 0 [] (.none) (.none) (.none) (.none) none (.none) (.none) 0), #[]⟩) ::
  (213, ⟨.none, none, (FD (topS 19) "_law_key" "_law_key" 0 [] (.none) (.none) (.none) (.none) none (.none) (.none) 0), #[]⟩) ::
  (206, ⟨.none, none, (FD (topS 18) "_law_text" "_law_text" 0 [] (.none) (.none) (.none) (.none) none (.none) (.none) 0), #[]⟩) ::
  (201, ⟨.none, none, (FD (topS 17) "_law_sign" "_law_sign" 0 [] (.none) (.none) (.none) (.none) none (.none) (.none) 0), #[]⟩) ::
  (194, ⟨.none, none, (FD (topS 16) "_law_number" "_law_number" 0 [] (.none) (.none) (.none) (.none) none (.none) (.none) 0), #[]⟩) ::
  (187, ⟨.none, none, (FD (topS 15) "_law_draw" "_law_draw" 0 [] (.none) (.none) (.none) (.none) none (.none) (.none) 0), #[]⟩) ::
  (180, ⟨.none, none, (FD (topS 14) "_law_more" "_law_more" 0 [] (.none) (.none) (.none) (.none) none (.none) (.none) 0), #[]⟩) ::
  (173, ⟨.none, none, (FD (topS 13) "_law_source" "_law_source" 0 [] (.none) (.none) (.none) (.none) none (.none) (.none) 0), #[]⟩) ::
  (168, ⟨.none, none, (FD (topS 11) "parse" "parse" 0 [] (.none) (.none) (.none) (.none) none (.none) (.none) 0), #[]⟩) ::
  (161, ⟨.type "getset_descriptor", none, (.fields #[.str "__weakref__" 386, .ref 159, .builtin "ExceptionGroup.__weakref__", .none]), #[]⟩) ::
  (160, ⟨.type "getset_descriptor", none, (.fields #[.str "__dict__" 384, .ref 159, .builtin "function.__dict__", .builtin "function.__dict__#set"]), #[]⟩) ::
  (157, ⟨.type "tuple", none, (.seq #[.str "at" 380, .str "depth" 381, .str "text" 382] 0), #[]⟩) ::
  (156, FN (inClass (topS 10) 9) "read_members" "Scanner.read_members" "keysthroughtext.texts" 257 155) ::
  (149, FN (inClass (topS 10) 8) "read_member" "Scanner.read_member" "keysthroughtext.texts" 257 148) ::
  (142, FN (inClass (topS 10) 7) "read_value" "Scanner.read_value" "keysthroughtext.texts" 257 141) ::
  (137, FN (inClass (topS 10) 6) "read_string" "Scanner.read_string" "keysthroughtext.texts" 257 136) ::
  (130, FN (inClass (topS 10) 5) "read_number" "Scanner.read_number" "keysthroughtext.texts" 257 129) ::
  (123, FN (inClass (topS 10) 4) "read_word" "Scanner.read_word" "keysthroughtext.texts" 257 122) ::
  (116, FN (inClass (topS 10) 3) "expect" "Scanner.expect" "keysthroughtext.texts" 257 115) ::
  (109, FN (inClass (topS 10) 2) "skip_blanks" "Scanner.skip_blanks" "keysthroughtext.texts" 257 108) ::
  (102, FN (inClass (topS 10) 1) "here" "Scanner.here" "keysthroughtext.texts" 257 101) ::
  (95, FN (inClass (topS 10) 0) "__init__" "Scanner.__init__" "keysthroughtext.texts" 257 94) ::
  (79, ⟨.none, none, (FD (topS 9) "render" "render" 0 [] (.none) (.none) (.none) (.none) none (.none) (.none) 0), #[]⟩) ::
  (74, ⟨.none, none, (FD (topS 8) "render_string" "render_string" 0 [] (.none) (.none) (.none) (.none) none (.none) (.none) 0), #[]⟩) ::
  (61, ⟨.type "tuple", none, (.seq #[.str "position" 252] 0), #[]⟩) ::
  (60, FN (inClass (topS 3) 0) "__init__" "TooDeep.__init__" "keysthroughtext.errors" 187 59) ::
  (42, ⟨.type "tuple", none, (.seq #[.str "position" 227] 0), #[]⟩) ::
  (41, FN (inClass (topS 2) 0) "__init__" "NotText.__init__" "keysthroughtext.errors" 187 40) ::
  (25, ⟨.type "getset_descriptor", none, (.fields #[.str "__weakref__" 202, .ref 24, .builtin "ExceptionGroup.__weakref__", .none]), #[]⟩) ::
  (22, ⟨.type "tuple", none, (.seq #[] 0), #[]⟩) ::
  (40, CO "__init__" "NotText.__init__" 219 6 2 0 0 3 35 181 36 .none (.ref 37) (.ref 38) 39 224 225) ::
  (59, CO "__init__" "TooDeep.__init__" 244 10 2 0 0 3 54 181 55 .none (.ref 56) (.ref 57) 58 249 250) ::
  (94, CO "__init__" "Scanner.__init__" 298 35 2 0 0 3 89 181 90 .none (.ref 91) (.ref 92) 93 303 304) ::
  (101, CO "here" "Scanner.here" 306 40 1 0 0 3 96 181 97 .none (.ref 98) (.ref 99) 100 310 311) :: KL3 w
def KL1 (w : World) : PySem.W.Frag :=
  (69, ⟨.type "tuple", none, (.seq #[.str "false" 268, .bool false] 0), #[]⟩) ::
  (68, ⟨.type "tuple", none, (.seq #[.str "true" 266, .bool true] 0), #[]⟩) ::
  (67, ⟨.type "tuple", none, (.seq #[.str "null" 264, .none] 0), #[]⟩) ::
  (75, CO "render_string" "render_string" 273 16 1 0 0 3 70 181 71 .none (.ref 72) (.ref 73) 74 277 278) ::
  (80, CO "render" "render" 280 18 1 0 0 3 77 181 78 .none .none .none 79 283 284) ::
  (169, CO "parse" "parse" 391 128 1 0 0 3 164 181 165 .none (.ref 166) (.ref 167) 168 397 398) ::
  (174, CO "_law_source" "_law_source" 402 136 1 0 0 3 171 181 172 .none .none .none 173 405 406) ::
  (181, CO "_law_more" "_law_more" 408 138 1 0 0 3 176 181 177 .none (.ref 178) (.ref 179) 180 416 417) ::
  (188, CO "_law_draw" "_law_draw" 419 150 2 0 0 3 183 181 184 .none (.ref 185) (.ref 186) 187 425 426) ::
  (195, CO "_law_number" "_law_number" 428 156 1 0 0 3 190 181 191 .none (.ref 192) (.ref 193) 194 435 436) ::
  (202, CO "_law_sign" "_law_sign" 438 166 1 0 0 3 197 181 198 .none (.ref 199) (.ref 200) 201 443 444) ::
  (207, CO "_law_text" "_law_text" 446 170 1 0 0 3 204 181 205 .none .none .none 206 449 450) ::
  (214, CO "_law_key" "_law_key" 452 176 1 0 0 3 209 181 210 .none (.ref 211) (.ref 212) 213 458 459) ::
  (221, CO "_law_leaf" "_law_leaf" 461 188 1 0 0 3 216 181 217 .none (.ref 218) (.ref 219) 220 467 468) ::
  (226, CO "_law_raw" "_law_raw" 470 200 2 0 0 3 223 181 224 .none .none .none 225 473 474) ::
  (233, CO "_law_raw_deep" "_law_raw_deep" 476 217 3 0 0 3 228 181 229 .none (.ref 230) (.ref 231) 232 485 486) ::
  (240, CO "_law_own_string" "_law_own_string" 488 229 1 0 0 3 235 181 236 .none (.ref 237) (.ref 238) 239 494 495) ::
  (247, CO "_law_tokens" "_law_tokens" 497 236 1 0 0 3 242 181 243 .none (.ref 244) (.ref 245) 246 503 504) ::
  (254, CO "_law_spaced" "_law_spaced" 506 258 2 0 0 3 249 181 250 .none (.ref 251) (.ref 252) 253 513 514) ::
  (261, CO "_law_squeezed" "_law_squeezed" 516 265 1 0 0 3 256 181 257 .none (.ref 258) (.ref 259) 260 524 525) ::
  (268, CO "_law_loose_sign" "_law_loose_sign" 527 279 1 0 0 3 263 181 264 .none (.ref 265) (.ref 266) 267 532 533) ::
  (275, CO "_law_read" "_law_read" 535 282 1 0 0 3 270 181 271 .none (.ref 272) (.ref 273) 274 541 542) ::
  (282, CO "_law_begin" "_law_begin" 544 292 2 0 0 3 277 181 278 .none (.ref 279) (.ref 280) 281 550 551) ::
  (289, CO "_law_after" "_law_after" 553 315 2 0 0 3 284 181 285 .none (.ref 286) (.ref 287) 288 559 560) ::
  (296, CO "_law_inside" "_law_inside" 562 329 2 0 0 3 291 181 292 .none (.ref 293) (.ref 294) 295 567 568) ::
  (303, CO "_law_token" "_law_token" 570 338 2 0 0 3 298 181 299 .none (.ref 300) (.ref 301) 302 575 576) ::
  (310, CO "_law_step" "_law_step" 578 353 2 0 0 3 305 181 306 .none (.ref 307) (.ref 308) 309 584 585) ::
  (317, CO "_law_scanned" "_law_scanned" 587 373 1 0 0 3 312 181 313 .none (.ref 314) (.ref 315) 316 593 594) ::
  (324, CO "_law_changed" "_law_changed" 596 381 2 0 0 3 319 181 320 .none (.ref 321) (.ref 322) 323 603 604) ::
  (331, CO "law" "law" 606 389 1 0 0 3 326 181 327 .none (.ref 328) (.ref 329) 330 615 616) ::
  (330, ⟨.none, none, (FD (topS 36) "law" "law" 0 [] (.none) (.none) (.none) (.none) none (.none) (.none) 0), #[]⟩) ::
  (323, ⟨.none, none, (FD (topS 35) "_law_changed" "_law_changed" 0 [] (.none) (.none) (.none) (.none) none (.none) (.none) 0), #[]⟩) ::
  (316, ⟨.none, none, (FD (topS 34) "_law_scanned" "_law_scanned" 0 [] (.none) (.none) (.none) (.none) none (.none) (.none) 0), #[]⟩) ::
  (309, ⟨.none, none, (FD (topS 33) "_law_step" "_law_step" 0 [] (.none) (.none) (.none) (.none) none (.none) (.none) 0), #[]⟩) ::
  (302, ⟨.none, none, (FD (topS 32) "_law_token" "_law_token" 0 [] (.none) (.none) (.none) (.none) none (.none) (.none) 0), #[]⟩) ::
  (295, ⟨.none, none, (FD (topS 31) "_law_inside" "_law_inside" 0 [] (.none) (.none) (.none) (.none) none (.none) (.none) 0), #[]⟩) ::
  (288, ⟨.none, none, (FD (topS 30) "_law_after" "_law_after" 0 [] (.none) (.none) (.none) (.none) none (.none) (.none) 0), #[]⟩) ::
  (281, ⟨.none, none, (FD (topS 29) "_law_begin" "_law_begin" 0 [] (.none) (.none) (.none) (.none) none (.none) (.none) 0), #[]⟩) ::
  (274, ⟨.none, none, (FD (topS 28) "_law_read" "_law_read" 0 [] (.none) (.none) (.none) (.none) none (.none) (.none) 0), #[]⟩) ::
  (267, ⟨.none, none, (FD (topS 27) "_law_loose_sign" "_law_loose_sign" 0 [] (.none) (.none) (.none) (.none) none (.none) (.none) 0), #[]⟩) :: KL2 w
def KL (w : World) : PySem.W.Frag :=
  (3, ⟨.type "dict", none, (.dict #[DE w "__name__" 165 (.str "law_keysthroughtext_k16_whole_spoilt_texts" 400), DE w "__doc__" 166 (.none), DE w "__package__" 167 (.none), DE w "__loader__" 168 (.builtin "__main__.__loader__#opaque"), DE w "__spec__" 169 (.none), DE w "__annotations__" 170 (.ref 6), DE w "__builtins__" 171 (.ref 4), DE w "__file__" 173 (.str "/claim/cut.py" 172), DE w "__cached__" 174 (.none), DE w "KeysError" 206 (.ref 24), DE w "NotText" 231 (.ref 44), DE w "TooDeep" 256 (.ref 63), DE w "DEEPEST" 260 (.int (60) 259), DE w "MOST_DIGITS" 262 (.int (30) 261), DE w "WORDS" 272 (.ref 66), DE w "render_string" 279 (.ref 76), DE w "render" 285 (.ref 81), DE w "Scanner" 390 (.ref 159), DE w "parse" 399 (.ref 170), DE w "_law_source" 407 (.ref 175), DE w "_law_more" 418 (.ref 182), DE w "_law_draw" 427 (.ref 189), DE w "_law_number" 437 (.ref 196), DE w "_law_sign" 445 (.ref 203), DE w "_law_text" 451 (.ref 208), DE w "_law_key" 460 (.ref 215), DE w "_law_leaf" 469 (.ref 222), DE w "_law_raw" 475 (.ref 227), DE w "_law_raw_deep" 487 (.ref 234), DE w "_law_own_string" 496 (.ref 241), DE w "_law_tokens" 505 (.ref 248), DE w "_law_spaced" 515 (.ref 255), DE w "_law_squeezed" 526 (.ref 262), DE w "_law_loose_sign" 534 (.ref 269), DE w "_law_read" 543 (.ref 276), DE w "_law_begin" 552 (.ref 283), DE w "_law_after" 561 (.ref 290), DE w "_law_inside" 569 (.ref 297), DE w "_law_token" 577 (.ref 304), DE w "_law_step" 586 (.ref 311), DE w "_law_scanned" 595 (.ref 318), DE w "_law_changed" 605 (.ref 325), DE w "law" 617 (.ref 332)] 43), #[]⟩) ::
  (159, ⟨.type "type", none, (.cls ⟨"Scanner", [.type "object"], [.ref 159, .type "object"], 158, "Scanner", true, [], [], false, none, false⟩), #[none, none, some (.str "Scanner" 286), some (.str "Scanner" 294), some (.builtin "object.__new__"), some (.bool true)]⟩) ::
  (158, ⟨.type "dict", none, (.dict #[DE w "__module__" 293 (.str "keysthroughtext.texts" 257), DE w "__firstlineno__" 297 (.int (33) 296), DE w "__init__" 305 (.ref 95), DE w "here" 312 (.ref 102), DE w "skip_blanks" 319 (.ref 109), DE w "expect" 327 (.ref 116), DE w "read_word" 337 (.ref 123), DE w "read_number" 346 (.ref 130), DE w "read_string" 355 (.ref 137), DE w "read_value" 361 (.ref 142), DE w "read_member" 370 (.ref 149), DE w "read_members" 379 (.ref 156), DE w "__static_attributes__" 383 (.ref 157), DE w "__dict__" 385 (.ref 160), DE w "__weakref__" 387 (.ref 161), DE w "__doc__" 388 (.none)] 4), #[]⟩) ::
  (44, ⟨.type "type", none, (.cls ⟨"NotText", [.ref 24], [.ref 44, .ref 24, .type "ValueError", .type "Exception", .type "BaseException", .type "object"], 43, "NotText", true, [], [], false, none, false⟩), #[some (.ref 28), none, some (.str "NotText" 207), some (.str "NotText" 215), some (.builtin "ValueError.__new__"), some (.bool true)]⟩) ::
  (43, ⟨.type "dict", none, (.dict #[DE w "__module__" 214 (.str "keysthroughtext.errors" 187), DE w "__firstlineno__" 218 (.int (4) 217), DE w "__init__" 226 (.ref 41), DE w "__static_attributes__" 228 (.ref 42), DE w "__doc__" 229 (.none)] 2), #[]⟩) ::
  (63, ⟨.type "type", none, (.cls ⟨"TooDeep", [.ref 24], [.ref 63, .ref 24, .type "ValueError", .type "Exception", .type "BaseException", .type "object"], 62, "TooDeep", true, [], [], false, none, false⟩), #[some (.ref 47), none, some (.str "TooDeep" 232), some (.str "TooDeep" 240), some (.builtin "ValueError.__new__"), some (.bool true)]⟩) ::
  (62, ⟨.type "dict", none, (.dict #[DE w "__module__" 239 (.str "keysthroughtext.errors" 187), DE w "__firstlineno__" 243 (.int (8) 242), DE w "__init__" 251 (.ref 60), DE w "__static_attributes__" 253 (.ref 61), DE w "__doc__" 254 (.none)] 2), #[]⟩) ::
  (24, ⟨.type "type", none, (.cls ⟨"KeysError", [.type "ValueError"], [.ref 24, .type "ValueError", .type "Exception", .type "BaseException", .type "object"], 23, "KeysError", true, [], [.ref 44, .ref 63], false, none, false⟩), #[some (.ref 15), none, some (.str "KeysError" 189), some (.str "KeysError" 197), some (.builtin "ValueError.__new__"), some (.bool true)]⟩) ::
  (23, ⟨.type "dict", none, (.dict #[DE w "__module__" 196 (.str "keysthroughtext.errors" 187), DE w "__firstlineno__" 200 (.int (2) 199), DE w "__static_attributes__" 201 (.ref 22), DE w "__weakref__" 203 (.ref 25), DE w "__doc__" 204 (.none)] 3), #[]⟩) ::
  (66, ⟨.type "dict", none, (.dict #[DE w "n" 263 (.ref 67), DE w "t" 265 (.ref 68), DE w "f" 267 (.ref 69)] 3), #[]⟩) ::
  (0, ⟨.type "dict", none, (.dict #[DE w "__name__" 1 (.str "builtins" 160), DE w "__doc__" 2 (.builtin "builtins.__doc__:str#opaque"), DE w "__package__" 3 (.builtin "builtins.__package__:str#opaque"), DE w "__loader__" 4 (.builtin "builtins.__loader__:shared#opaque"), DE w "__spec__" 5 (.builtin "builtins.__spec__#opaque"), DE w "__build_class__" 6 (.builtin "__build_class__"), DE w "__import__" 7 (.builtin "__import__"), DE w "abs" 8 (.builtin "abs"), DE w "all" 9 (.builtin "all"), DE w "any" 10 (.builtin "any"), DE w "ascii" 11 (.builtin "ascii"), DE w "bin" 12 (.builtin "bin"), DE w "breakpoint" 13 (.builtin "breakpoint"), DE w "callable" 14 (.builtin "callable"), DE w "chr" 15 (.builtin "chr"), DE w "compile" 16 (.builtin "compile"), DE w "delattr" 17 (.builtin "delattr"), DE w "dir" 18 (.builtin "dir"), DE w "divmod" 19 (.builtin "divmod"), DE w "eval" 20 (.builtin "eval"), DE w "exec" 21 (.builtin "exec"), DE w "format" 22 (.builtin "format"), DE w "getattr" 23 (.builtin "getattr"), DE w "globals" 24 (.builtin "globals"), DE w "hasattr" 25 (.builtin "hasattr"), DE w "hash" 26 (.builtin "hash"), DE w "hex" 27 (.builtin "hex"), DE w "id" 28 (.builtin "id"), DE w "input" 29 (.builtin "input"), DE w "isinstance" 30 (.builtin "isinstance"), DE w "issubclass" 31 (.builtin "issubclass"), DE w "iter" 32 (.builtin "iter"), DE w "aiter" 33 (.builtin "aiter"), DE w "len" 34 (.builtin "len"), DE w "locals" 35 (.builtin "locals"), DE w "max" 36 (.builtin "max"), DE w "min" 37 (.builtin "min"), DE w "next" 38 (.builtin "next"), DE w "anext" 39 (.builtin "anext"), DE w "oct" 40 (.builtin "oct"), DE w "ord" 41 (.builtin "ord"), DE w "pow" 42 (.builtin "pow"), DE w "print" 43 (.builtin "print"), DE w "repr" 44 (.builtin "repr"), DE w "round" 45 (.builtin "round"), DE w "setattr" 46 (.builtin "setattr"), DE w "sorted" 47 (.builtin "sorted"), DE w "sum" 48 (.builtin "sum"), DE w "vars" 49 (.builtin "vars"), DE w "None" 50 (.none), DE w "Ellipsis" 51 (.ellipsis), DE w "NotImplemented" 52 (.notImplemented), DE w "False" 53 (.bool false), DE w "True" 54 (.bool true), DE w "bool" 55 (.type "bool"), DE w "memoryview" 56 (.type "memoryview"), DE w "bytearray" 57 (.type "bytearray"), DE w "bytes" 58 (.type "bytes"), DE w "classmethod" 59 (.type "classmethod"), DE w "complex" 60 (.type "complex"), DE w "dict" 61 (.type "dict"), DE w "enumerate" 62 (.type "enumerate"), DE w "filter" 63 (.type "filter"), DE w "float" 64 (.type "float"), DE w "frozenset" 65 (.type "frozenset"), DE w "property" 66 (.type "property"), DE w "int" 67 (.type "int"), DE w "list" 68 (.type "list"), DE w "map" 69 (.type "map"), DE w "object" 70 (.type "object"), DE w "range" 71 (.type "range"), DE w "reversed" 72 (.type "reversed"), DE w "set" 73 (.type "set"), DE w "slice" 74 (.type "slice"), DE w "staticmethod" 75 (.type "staticmethod"), DE w "str" 76 (.type "str"), DE w "super" 77 (.type "super"), DE w "tuple" 78 (.type "tuple"), DE w "type" 79 (.type "type"), DE w "zip" 80 (.type "zip"), DE w "__debug__" 81 (.bool true), DE w "BaseException" 82 (.type "BaseException"), DE w "BaseExceptionGroup" 83 (.type "BaseExceptionGroup"), DE w "Exception" 84 (.type "Exception"), DE w "GeneratorExit" 85 (.type "GeneratorExit"), DE w "KeyboardInterrupt" 86 (.type "KeyboardInterrupt"), DE w "SystemExit" 87 (.type "SystemExit"), DE w "ArithmeticError" 88 (.type "ArithmeticError"), DE w "AssertionError" 89 (.type "AssertionError"), DE w "AttributeError" 90 (.type "AttributeError"), DE w "BufferError" 91 (.type "BufferError"), DE w "EOFError" 92 (.type "EOFError"), DE w "ImportError" 93 (.type "ImportError"), DE w "LookupError" 94 (.type "LookupError"), DE w "MemoryError" 95 (.type "MemoryError"), DE w "NameError" 96 (.type "NameError"), DE w "OSError" 97 (.type "OSError"), DE w "ReferenceError" 98 (.type "ReferenceError"), DE w "RuntimeError" 99 (.type "RuntimeError"), DE w "StopAsyncIteration" 100 (.type "StopAsyncIteration"), DE w "StopIteration" 101 (.type "StopIteration"), DE w "SyntaxError" 102 (.type "SyntaxError"), DE w "SystemError" 103 (.type "SystemError"), DE w "TypeError" 104 (.type "TypeError"), DE w "ValueError" 105 (.type "ValueError"), DE w "Warning" 106 (.type "Warning"), DE w "FloatingPointError" 107 (.type "FloatingPointError"), DE w "OverflowError" 108 (.type "OverflowError"), DE w "ZeroDivisionError" 109 (.type "ZeroDivisionError"), DE w "BytesWarning" 110 (.type "BytesWarning"), DE w "DeprecationWarning" 111 (.type "DeprecationWarning"), DE w "EncodingWarning" 112 (.type "EncodingWarning"), DE w "FutureWarning" 113 (.type "FutureWarning"), DE w "ImportWarning" 114 (.type "ImportWarning"), DE w "PendingDeprecationWarning" 115 (.type "PendingDeprecationWarning"), DE w "ResourceWarning" 116 (.type "ResourceWarning"), DE w "RuntimeWarning" 117 (.type "RuntimeWarning"), DE w "SyntaxWarning" 118 (.type "SyntaxWarning"), DE w "UnicodeWarning" 119 (.type "UnicodeWarning"), DE w "UserWarning" 120 (.type "UserWarning"), DE w "BlockingIOError" 121 (.type "BlockingIOError"), DE w "ChildProcessError" 122 (.type "ChildProcessError"), DE w "ConnectionError" 123 (.type "ConnectionError"), DE w "FileExistsError" 124 (.type "FileExistsError"), DE w "FileNotFoundError" 125 (.type "FileNotFoundError"), DE w "InterruptedError" 126 (.type "InterruptedError"), DE w "IsADirectoryError" 127 (.type "IsADirectoryError"), DE w "NotADirectoryError" 128 (.type "NotADirectoryError"), DE w "PermissionError" 129 (.type "PermissionError"), DE w "ProcessLookupError" 130 (.type "ProcessLookupError"), DE w "TimeoutError" 131 (.type "TimeoutError"), DE w "IndentationError" 132 (.type "IndentationError"), DE w "_IncompleteInputError" 133 (.type "_IncompleteInputError"), DE w "IndexError" 134 (.type "IndexError"), DE w "KeyError" 135 (.type "KeyError"), DE w "ModuleNotFoundError" 136 (.type "ModuleNotFoundError"), DE w "NotImplementedError" 137 (.type "NotImplementedError"), DE w "PythonFinalizationError" 138 (.type "PythonFinalizationError"), DE w "RecursionError" 139 (.type "RecursionError"), DE w "UnboundLocalError" 140 (.type "UnboundLocalError"), DE w "UnicodeError" 141 (.type "UnicodeError"), DE w "BrokenPipeError" 142 (.type "BrokenPipeError"), DE w "ConnectionAbortedError" 143 (.type "ConnectionAbortedError"), DE w "ConnectionRefusedError" 144 (.type "ConnectionRefusedError"), DE w "ConnectionResetError" 145 (.type "ConnectionResetError"), DE w "TabError" 146 (.type "TabError"), DE w "UnicodeDecodeError" 147 (.type "UnicodeDecodeError"), DE w "UnicodeEncodeError" 148 (.type "UnicodeEncodeError"), DE w "UnicodeTranslateError" 149 (.type "UnicodeTranslateError"), DE w "ExceptionGroup" 150 (.type "ExceptionGroup"), DE w "EnvironmentError" 151 (.type "OSError"), DE w "IOError" 152 (.type "OSError"), DE w "open" 153 (.builtin "open"), DE w "quit" 154 (.builtin "builtins.quit#opaque"), DE w "exit" 155 (.builtin "builtins.exit#opaque"), DE w "copyright" 156 (.builtin "builtins.copyright#opaque"), DE w "credits" 157 (.builtin "builtins.credits#opaque"), DE w "license" 158 (.builtin "builtins.license#opaque"), DE w "help" 159 (.builtin "builtins.help#opaque")] 159), #[]⟩) ::
  (182, FN (topS 14) "_law_more" "_law_more" "law_keysthroughtext_k16_whole_spoilt_texts" 400 181) ::
  (189, FN (topS 15) "_law_draw" "_law_draw" "law_keysthroughtext_k16_whole_spoilt_texts" 400 188) ::
  (269, FN (topS 27) "_law_loose_sign" "_law_loose_sign" "law_keysthroughtext_k16_whole_spoilt_texts" 400 268) ::
  (325, FN (topS 35) "_law_changed" "_law_changed" "law_keysthroughtext_k16_whole_spoilt_texts" 400 324) ::
  (196, FN (topS 16) "_law_number" "_law_number" "law_keysthroughtext_k16_whole_spoilt_texts" 400 195) ::
  (203, FN (topS 17) "_law_sign" "_law_sign" "law_keysthroughtext_k16_whole_spoilt_texts" 400 202) ::
  (208, FN (topS 18) "_law_text" "_law_text" "law_keysthroughtext_k16_whole_spoilt_texts" 400 207) ::
  (215, FN (topS 19) "_law_key" "_law_key" "law_keysthroughtext_k16_whole_spoilt_texts" 400 214) ::
  (222, FN (topS 20) "_law_leaf" "_law_leaf" "law_keysthroughtext_k16_whole_spoilt_texts" 400 221) ::
  (227, FN (topS 21) "_law_raw" "_law_raw" "law_keysthroughtext_k16_whole_spoilt_texts" 400 226) ::
  (234, FN (topS 22) "_law_raw_deep" "_law_raw_deep" "law_keysthroughtext_k16_whole_spoilt_texts" 400 233) ::
  (170, FN (topS 11) "parse" "parse" "keysthroughtext.texts" 257 169) ::
  (276, FN (topS 28) "_law_read" "_law_read" "law_keysthroughtext_k16_whole_spoilt_texts" 400 275) ::
  (290, FN (topS 30) "_law_after" "_law_after" "law_keysthroughtext_k16_whole_spoilt_texts" 400 289) ::
  (283, FN (topS 29) "_law_begin" "_law_begin" "law_keysthroughtext_k16_whole_spoilt_texts" 400 282) ::
  (297, FN (topS 31) "_law_inside" "_law_inside" "law_keysthroughtext_k16_whole_spoilt_texts" 400 296) ::
  (304, FN (topS 32) "_law_token" "_law_token" "law_keysthroughtext_k16_whole_spoilt_texts" 400 303) ::
  (311, FN (topS 33) "_law_step" "_law_step" "law_keysthroughtext_k16_whole_spoilt_texts" 400 310) ::
  (318, FN (topS 34) "_law_scanned" "_law_scanned" "law_keysthroughtext_k16_whole_spoilt_texts" 400 317) ::
  (175, FN (topS 13) "_law_source" "_law_source" "law_keysthroughtext_k16_whole_spoilt_texts" 400 174) ::
  (255, FN (topS 25) "_law_spaced" "_law_spaced" "law_keysthroughtext_k16_whole_spoilt_texts" 400 254) ::
  (262, FN (topS 26) "_law_squeezed" "_law_squeezed" "law_keysthroughtext_k16_whole_spoilt_texts" 400 261) ::
  (241, FN (topS 23) "_law_own_string" "_law_own_string" "law_keysthroughtext_k16_whole_spoilt_texts" 400 240) ::
  (248, FN (topS 24) "_law_tokens" "_law_tokens" "law_keysthroughtext_k16_whole_spoilt_texts" 400 247) ::
  (76, FN (topS 8) "render_string" "render_string" "keysthroughtext.texts" 257 75) ::
  (81, FN (topS 9) "render" "render" "keysthroughtext.texts" 257 80) ::
  (332, FN (topS 36) "law" "law" "law_keysthroughtext_k16_whole_spoilt_texts" 400 331) ::
  (4, ⟨.type "module", (some 0), .plain, #[]⟩) ::
  (6, ⟨.type "dict", none, (.dict #[] 0), #[]⟩) :: KL1 w
def asK : List Addr := [3, 159, 158, 44, 43, 63, 62, 24, 23, 66, 0, 182, 189, 269, 325, 196, 203, 208, 215, 222, 227, 234, 170, 276, 290, 283, 297, 304, 311, 318, 175, 255, 262, 241, 248, 76, 81, 332, 4, 6, 69, 68, 67, 75, 80, 169, 174, 181, 188, 195, 202, 207, 214, 221, 226, 233, 240, 247, 254, 261, 268, 275, 282, 289, 296, 303, 310, 317, 324, 331, 330, 323, 316, 309, 302, 295, 288, 281, 274, 267, 260, 253, 246, 239, 232, 225, 220, 213, 206, 201, 194, 187, 180, 173, 168, 161, 160, 157, 156, 149, 142, 137, 130, 123, 116, 109, 102, 95, 79, 74, 61, 60, 42, 41, 25, 22, 40, 59, 94, 101, 108, 115, 122, 129, 136, 141, 148, 155, 154, 147, 140, 135, 128, 121, 114, 107, 100, 93, 58, 39, 2]
theorem asK_eq (w : World) : asK = (KL w).map (·.1) := by kernel_rfl
def tlK : List Addr := []
abbrev RK : PySem.W.OpenRow := PySem.W.OpenLaw.row PySem.Challenge.rw_keysthroughtext_k16_whole_spoilt_texts
abbrev hkK : PySem.W.Hook := hookL asK KL tlK asK_eq
def obK (s : PySem.W.SharedT) : List (Option Obj) × List (Option Obj) := obL asK tlK s
theorem obK_eq (s : PySem.W.SharedT) : obK s = hkK.obs s.abs := obL_eq s
def looseK : List PySem.Str := (["KeysError", "NotText", "TooDeep", "DEEPEST", "MOST_DIGITS", "WORDS", "render_string", "render", "Scanner", "parse", "_law_source", "_law_more", "_law_draw", "_law_number", "_law_sign", "_law_text", "_law_key", "_law_leaf", "_law_raw", "_law_raw_deep", "_law_own_string", "_law_tokens", "_law_spaced", "_law_squeezed", "_law_loose_sign", "_law_read", "_law_begin", "_law_after", "_law_inside", "_law_token"] : List PySem.Str) ++ (["_law_step", "_law_scanned", "_law_changed"] : List PySem.Str)
set_option maxHeartbeats 0 in
theorem runKf (w : World) : HandSHeadRun.RunEq RK (PySem.W.view RK.prog [36]) hkK obK 20000 looseK (w.withFollow "special-get-raises" false) := by
  intro os
  kernel_rfl
set_option maxHeartbeats 0 in
theorem runKt (w : World) : HandSHeadRun.RunEq RK (PySem.W.view RK.prog [36]) hkK obK 20000 looseK (w.withFollow "special-get-raises" true) := by
  intro os
  kernel_rfl
theorem runK (w : World) : HandSHeadRun.RunEq RK (PySem.W.view RK.prog [36]) hkK obK 20000 looseK w := PySem.W.byRow2 "special-get-raises" (P := fun w => HandSHeadRun.RunEq RK (PySem.W.view RK.prog [36]) hkK obK 20000 looseK w) runKf runKt w
theorem fK0 (w : World) : ((fbK (KL w)).take 80).all id = true := by kernel_rfl
theorem fK1 (w : World) : (((fbK (KL w)).drop 80)).all id = true := by kernel_rfl
theorem fK (w : World) : (fbK (KL w)).all id = true := (all_cut 80 (fK0 w) (fK1 w))
theorem nK0 (w : World) : obsF (fnK.take 30) (KL w) = (true, ((fnK.take 30)).map He5.DefA.val) := by kernel_rfl
theorem nK1 (w : World) : obsF (fnK.drop 30) (KL w) = (true, ((fnK.drop 30)).map He5.DefA.val) := by kernel_rfl
theorem nK (w : World) : obsF fnK (KL w) = (true, fnK.map He5.DefA.val) := (fn_cut 30 (nK0 w) (nK1 w))
def tfK : List He.Defn := []
def tsK : List TabN := [("WORDS", ["n", "t", "f"])]
theorem tK (w : World) : tabW tsK (KL w) = tsK.map fun t => some (He.keysIn w.params t.2) := by kernel_rfl
theorem saysX (w : World) (h : Heap) (e : ∀ a ∈ tlK, h.get? a = some tabObj) : SaysTW fbK fnK tfK tsK w h (KL w) := ⟨saysTB_lit0 (saysB_lit (fK w) (nK w)), tK w⟩
section
open PySem PySem.W PySem.Calls PyProof.Rows
set_option maxRecDepth 100000 in
set_option maxHeartbeats 0 in
noncomputable def finK : PSigma fun P : Prop => P → PySem.Challenge.rw_keysthroughtext_k16_whole_spoilt_texts.Holds := ⟨_, fun F => by
  refine lookK fun said => ?_
  refine HandSHeadRun.head_any (r := OpenLaw.row PySem.Challenge.rw_keysthroughtext_k16_whole_spoilt_texts) (q := view (OpenLaw.row PySem.Challenge.rw_keysthroughtext_k16_whole_spoilt_texts).prog [36]) (H := hkK) (ob := obK) (M := 20000) (loose := looseK) (d := HandSHeadRun.topDef (OpenLaw.row PySem.Challenge.rw_keysthroughtext_k16_whole_spoilt_texts).prog 36) (kwd := []) obK_eq (by kernel_rfl) (fun s => by kernel_rfl) runK (by kernel_rfl) (by kernel_rfl) (by kernel_rfl) (by rfl) (by first | assumption | decide +kernel) (by decide +kernel) ⟨rfl, rfl, rfl, rfl, rfl, by decide +kernel⟩ ?hw ?hc
  case hw => w_witness2
  case hc => exact F⟩
end
end K16
namespace KB
open PySem PySem.Spec PyProof.Rows L2
/-! ### defs of the module, called by name -/
structure Def (K : PySem.W.Frag) (mg : Str → Option Value) (x : Str) (st : Stmt) : Prop where
  ex : ∃ (f : Addr) (fd : FuncData), Fun K x x st f fd ∧ mg x = some (.ref f)
structure Callee (P : Program) (w : World) (K : PySem.W.Frag) (mg : Str → Option Value) (base : Heap) (k : Nat) (x : Str) (ps : List Str) (sp : Sp) : Prop where
  ex : ∃ (f : Addr) (fd : FuncData), mg x = some (.ref f) ∧ PySem.W.keepIn K (.ref f) = true ∧ Binds K fd ps [] ∧ FnOk P w K mg base CX0 k f fd ps sp ∧ ∃ oc od osl, K.lookup f = some ⟨oc, od, .func fd, osl⟩
section
variable {P : Program} {w : World} {K : PySem.W.Frag} {mg : Str → Option Value} {base : Heap}
theorem Def.ok {x : Str} {st : Stmt} {N ps : List Str} {k : Nat} {sp : Sp} (D : Def K mg x st) (S : FnScope N ps (defScope st))
    (hb : ∀ (kV doc pm : Value) (an : Option Addr) (cdv ct : Value) (us : List Value), us.length = ps.length → bindArgs (PySem.W.fnOf x x (defArgs st) (defBody st) (defScope st) .none kV doc pm an cdv ct) ⟨us, []⟩ = pure (ps.zip us))
    (len : ∀ vs H Q E, sp vs H Q E → vs.length = ps.length)
    (hbody : ∀ (f : Addr) (cdv : Value) (A : Around) (outer : List Env) (s : Shared) (H : Hp) (vs : List V) (Q : VK) (E : XK), Room k (A.deeper (envOfC x (defScope st) s.heap.objs.size f cdv)) → sp vs H Q E →
      ∃ t, PSs (cxOf CX0 P w K mg base N x (defScope st) f cdv A outer s H E).nox (defBody st) t ∧ t { nx := fun _ H' => Q .non H', rt := Q } (start N vs) H) : Callee P w K mg base (k + 1) x ps sp := by
  obtain ⟨f, fd, F, g⟩ := D.ex
  have E := F.ex
  obtain ⟨oc, od, kV, doc, pm, an, cdv, ct, osl, e, lk, _⟩ := E
  exact ⟨f, fd, g, F.kp, F.binds hb, F.ok S len (hbody f), oc, od, osl, lk⟩
theorem Callee.mono {x : Str} {ps : List Str} {k : Nat} {sp sp' : Sp} (C : Callee P w K mg base k x ps sp) (h : ∀ vs H Q E, sp' vs H Q E → sp vs H Q E) : Callee P w K mg base k x ps sp' := by
  obtain ⟨f, fd, g, kp, b, F, lk⟩ := C.ex
  exact ⟨f, fd, g, kp, b, ⟨fun vs H Q E q => F.len vs H Q E (h _ _ _ _ q), fun A outer s H as us vs Q E hr e hb r q => F.run A outer s H as us vs Q E hr e hb r (h _ _ _ _ q)⟩, lk⟩
/-- the built-in names that the module leaves alone -/
structure Bi (mg : Str → Option Value) : Prop where
  b_abs : mg "abs" = none
  b_all : mg "all" = none
  b_any : mg "any" = none
  b_bool : mg "bool" = none
  b_enumerate : mg "enumerate" = none
  b_int : mg "int" = none
  b_isinstance : mg "isinstance" = none
  b_len : mg "len" = none
  b_list : mg "list" = none
  b_max : mg "max" = none
  b_min : mg "min" = none
  b_range : mg "range" = none
  b_set : mg "set" = none
  b_sorted : mg "sorted" = none
  b_str : mg "str" = none
  b_tuple : mg "tuple" = none
  b_zip : mg "zip" = none
  b_iter : mg "iter" = none
  b_ValueError : mg "ValueError" = none
  b_sum : mg "sum" = none
  b_dict : mg "dict" = none
end
section
variable {X : Cx}
/-- a written text + e, e wants a token -/
theorem pe_opT {x : Str} {j : Nat} {c0 pos : Pos} {op : Operator} {f : Expr} {r : R2} {tf : TE} (ho : OpR X (binaryOp op) r) (hb : PET X f tf) : PE X (.BinOp (.Constant (.str x) j c0) op f pos) (tOp r (tC (.str x)) tf) :=
  ⟨fun pins s σ H Q I h => wpAny_BinOp (Calls.Constant_str (thn (hb pins { s with toks := s.toks + 1 } σ H _ (by show 1 ≤ s.toks + 1; omega) (I.tok _) h) fun u s2 ⟨y, H2, I2, r2, q2⟩ => ho pins s2 σ H2 (.str x) y _ u Q I2 ⟨_, rfl⟩ r2 q2))⟩
/-! ### what stands behind a statement, under a name -/
/-! ### rules for more than one kind of value -/
theorem OpR.wk {f : Value → Value → Sem Value} {r r' : R2} (h : OpR X f r) (w : ∀ x y H Q, r' x y H Q → r x y H Q) : OpR X f r' := fun pins s σ H x y v u Q I rx ry q => h pins s σ H x y v u Q I rx ry (w x y H Q q)
theorem CallR.wk {f : Value} {r r' : List V → Hp → VK → Prop} (h : CallR X f r) (w : ∀ xs H Q, r' xs H Q → r xs H Q) : CallR X f r' := fun pins s σ H xs us Q I r1 q => h pins s σ H xs us Q I r1 (w xs H Q q)
theorem CallR.or {f : Value} {r r' : List V → Hp → VK → Prop} (h : CallR X f r) (h' : CallR X f r') : CallR X f (fun xs H Q => r xs H Q ∨ r' xs H Q) := fun pins s σ H xs us Q I r1 q => by
  rcases q with q | q
  · exact h pins s σ H xs us Q I r1 q
  · exact h' pins s σ H xs us Q I r1 q
theorem MtR.wk {id : String} {r r' : V → List V → Hp → VK → Prop} (h : MtR X id r) (w : ∀ x xs H Q, r' x xs H Q → r x xs H Q) : MtR X id r' := fun pins s σ H x xs v us Q I rx r1 q => h pins s σ H x xs v us Q I rx r1 (w x xs H Q q)
theorem IxR.wk {r r' : R2} (h : IxR X r) (w : ∀ x y H Q, r' x y H Q → r x y H Q) : IxR X r' := fun a b pins s σ H x y v u Q I rx ry q => h a b pins s σ H x y v u Q I rx ry (w x y H Q q)
theorem SlR.wk {r r' : V → Option Int → Option Int → Hp → VK → Prop} (h : SlR X r) (w : ∀ x a b H Q, r' x a b H Q → r x a b H Q) : SlR X r' := fun pins s σ H x v vl vu lo hi sl Q I rx hs pl pu q => h pins s σ H x v vl vu lo hi sl Q I rx hs pl pu (w _ _ _ _ _ q)
/-- a + b: ints, texts, two lists -/
def rAd : R2 := fun x y H Q => (∃ i j, x = .int i ∧ y = .int j ∧ Q (.int (i + j)) H) ∨ (∃ i j, x = .str i ∧ y = .str j ∧ i.length + j.length ≤ sizeLine ∧ Q (.str (i ++ j)) H) ∨ rCat x y H Q
theorem ad_any : OpR X (binaryOp .Add) rAd := op_add.or (op_add_str.or op_cat)
def rMl : R2 := fun x y H Q => (∃ i j, x = .int i ∧ y = .int j ∧ (CMul i j ∨ CMulW i j) ∧ Q (.int (i * j)) H) ∨ rRep x y H Q
theorem ml_any : OpR X (binaryOp .Mult) rMl := by
  refine OpR.or (fun pins s σ H x y v u Q I rx ry h => ?_) op_rep
  obtain ⟨i, j, rfl, rfl, c | c, q⟩ := h
  · exact op_mul pins s σ H _ _ v u Q I rx ry ⟨i, j, rfl, rfl, c, q⟩
  · exact op_mulW pins s σ H _ _ v u Q I rx ry ⟨i, j, rfl, rfl, c, q⟩
def rMd : R2 := fun x y H Q => ∃ i j, x = .int i ∧ y = .int j ∧ 0 < j ∧ Q (.int (i % j)) H
theorem md_any : OpR X (binaryOp .Mod) rMd := op_mod
def rFd : R2 := fun x y H Q => ∃ i j, x = .int i ∧ y = .int j ∧ CDivW i j ∧ Q (.int (i / j)) H
theorem fd_any : OpR X (binaryOp .FloorDiv) rFd := op_fdivW
/-- x is y, y one of None, True, False -/
def isK : V → Bool
  | .non => true
  | .bl _ => true
  | _ => false
def rIs (n : Bool) : R2 := fun x y H Q => isK y = true ∧ Q (.bl (n ^^ decide (x = y))) H
theorem is_any : OpR X (compareOp .Is) (rIs false) := by
  intro pins s σ H x y v u Q I rx ry h
  obtain ⟨k, q⟩ := h
  rw [Bool.false_xor] at q
  cases y with
  | non => exact op_isN pins s σ H x .non v u Q I rx ry ⟨rfl, q⟩
  | bl b =>
    cases x with
    | bl a =>
      refine op_isBl pins s σ H (.bl a) (.bl b) v u Q I rx ry ⟨a, b, rfl, rfl, ?_⟩
      have e : decide (V.bl a = V.bl b) = decide (a = b) := by cases a <;> cases b <;> decide
      rw [← e]
      exact q
    | _ =>
      cases ry
      refine wpAny_is_other ?_ ?_ ⟨.bl false, H, I, rfl, q⟩ <;> first
        | (obtain ⟨t, rfl⟩ := rx; first | rfl | (intro z; cases z))
        | (cases rx; first | rfl | (intro z; cases z))
  | _ => cases k
def rIntA : List V → Hp → VK → Prop := fun vs H Q => (∃ i, vs = [.int i] ∧ Q (.int i) H) ∨ (∃ k, vs = [.bl k] ∧ Q (.int (if k then 1 else 0)) H) ∨ (∃ a n, vs = [.str a] ∧ PySem.intText? a = some n ∧ a.length ≤ 640 ∧ Q (.int n) H)
theorem int_any : CallR X (.type "int") rIntA := by
  refine CallR.wk (CallR.or call_int1 call_int_str) fun vs H Q h => ?_
  rcases h with h | h | ⟨a, n, h⟩
  · exact .inl (.inl h)
  · exact .inl (.inr h)
  · exact .inr ⟨a, n, h⟩
def rStrA : List V → Hp → VK → Prop := fun vs H Q => (∃ i, vs = [.int i] ∧ i.natAbs.log2 < 1920 ∧ Q (.str (toString i)) H) ∨ (∃ a, vs = [.str a] ∧ Q (.str a) H)
theorem str_any : CallR X (.type "str") rStrA := CallR.or call_str_int SkE.call_str_str
/-- the name of a value's type, where the value is flat or a tracked list, tuple or dict -/
def TyN (H : Hp) (x : V) (n : String) : Prop := match x with
  | .non => n = "NoneType"
  | .bl _ => n = "bool"
  | .int _ => n = "int"
  | .str _ => n = "str"
  | .ref a => (∃ xs, H a = some (.lst xs) ∧ n = "list") ∨ (∃ xs, H a = some (.tup xs) ∧ n = "tuple") ∨ ∃ kvs, H a = some (.dK kvs) ∧ n = "dict"
  | _ => False
theorem TyN.ty {K : PySem.W.Frag} {H : Hp} {x : V} {n : String} (h : TyN H x n) : TyX K H x (.type n) := by
  unfold TyN at h
  split at h
  · subst h; exact .base .non
  · subst h; exact .base (.bl _)
  · subst h; exact .base (.int _)
  · subst h; exact .base (.str _)
  · rcases h with ⟨xs, e, rfl⟩ | ⟨xs, e, rfl⟩ | ⟨kvs, e, rfl⟩
    · exact .base (.lst e)
    · exact .base (.tup e)
    · exact .base (.dK e)
  · exact h.elim
/-- x[a:b]: a text, a tracked list -/
def rSlA : V → Option Int → Option Int → Hp → VK → Prop := fun x lo hi H Q => (∃ z, x = .str z ∧ z.length ≤ sizeLine ∧ Q (.str (cutS z lo hi)) H) ∨ (∃ a xs, x = .ref a ∧ H a = some (.lst xs) ∧ ∀ p, H p = none → Q (.ref p) (upd H p (.lst (cutV xs lo hi))))
end
end KB
namespace KB
open PySem PySem.Spec PyProof.Rows L2
section
variable {σ : L2.St} {H : Hp} {Q : VK} {D : L2.Ends}
section
variable {Q : Bool → Hp → Prop} {t u : TT} {te : TE}
end
end
section
variable {x y : V} {H : Hp} {Q : VK}
theorem kb_NoneType_int : kitB "NoneType" "int" = some false := by decide +kernel
theorem kb_NoneType_str : kitB "NoneType" "str" = some false := by decide +kernel
theorem kb_NoneType_bool : kitB "NoneType" "bool" = some false := by decide +kernel
theorem kb_NoneType_list : kitB "NoneType" "list" = some false := by decide +kernel
theorem kb_NoneType_tuple : kitB "NoneType" "tuple" = some false := by decide +kernel
theorem kb_bool_int : kitB "bool" "int" = some true := by decide +kernel
theorem kb_bool_str : kitB "bool" "str" = some false := by decide +kernel
theorem kb_bool_bool : kitB "bool" "bool" = some true := by decide +kernel
theorem kb_bool_list : kitB "bool" "list" = some false := by decide +kernel
theorem kb_bool_tuple : kitB "bool" "tuple" = some false := by decide +kernel
theorem kb_int_int : kitB "int" "int" = some true := by decide +kernel
theorem kb_int_str : kitB "int" "str" = some false := by decide +kernel
theorem kb_int_bool : kitB "int" "bool" = some false := by decide +kernel
theorem kb_int_list : kitB "int" "list" = some false := by decide +kernel
theorem kb_int_tuple : kitB "int" "tuple" = some false := by decide +kernel
theorem kb_str_int : kitB "str" "int" = some false := by decide +kernel
theorem kb_str_str : kitB "str" "str" = some true := by decide +kernel
theorem kb_str_bool : kitB "str" "bool" = some false := by decide +kernel
theorem kb_str_list : kitB "str" "list" = some false := by decide +kernel
theorem kb_str_tuple : kitB "str" "tuple" = some false := by decide +kernel
theorem kb_list_int : kitB "list" "int" = some false := by decide +kernel
theorem kb_list_str : kitB "list" "str" = some false := by decide +kernel
theorem kb_list_bool : kitB "list" "bool" = some false := by decide +kernel
theorem kb_list_list : kitB "list" "list" = some true := by decide +kernel
theorem kb_list_tuple : kitB "list" "tuple" = some false := by decide +kernel
theorem kb_tuple_int : kitB "tuple" "int" = some false := by decide +kernel
theorem kb_tuple_str : kitB "tuple" "str" = some false := by decide +kernel
theorem kb_tuple_bool : kitB "tuple" "bool" = some false := by decide +kernel
theorem kb_tuple_list : kitB "tuple" "list" = some false := by decide +kernel
theorem kb_tuple_tuple : kitB "tuple" "tuple" = some true := by decide +kernel
theorem abs_nat (i : Int) : (if i < 0 then -i else i) = (i.natAbs : Int) := by split <;> omega
end
/-! ### dicts by text keys -/
theorem sizeN {n : Nat} (h : n ≤ 100000) : n < sizeLine := Nat.lt_of_le_of_lt h (by decide)
/-! ### the source of draws -/
def Keep (a : Addr) (H H' : Hp) : Prop := ∀ b o, H b = some o → b ≠ a → H' b = some o
theorem Keep.refl (a : Addr) (H : Hp) : Keep a H H := fun _ _ h _ => h
theorem Keep.trans {a : Addr} {H H1 H2 : Hp} (x : Keep a H H1) (y : Keep a H1 H2) : Keep a H H2 := fun b o h n => y b o (x b o h n) n
theorem Keep.upd {a : Addr} {H : Hp} {o : HO} : Keep a H (upd H a o) := fun b u h n => by rw [upd_ne n]; exact h
theorem Keep.new {a p : Addr} {H : Hp} {o : HO} (h : H p = none) : Keep a H (L2.upd H p o) := fun b u e _ => by rw [upd_ne (ne_of_none e h)]; exact e
/-- an object that was not there at H changes -/
theorem Keep.mut {a d : Addr} {H H1 H2 : Hp} {o : HO} (k1 : Keep a H H1) (n : d ≠ a) (hd : H1 d = none) (k2 : Keep a H H2) : Keep a H (L2.upd H2 d o) := fun b u h nb => by
  have e : b ≠ d := fun e => by
    subst e
    have := k1 _ _ h nb
    rw [hd] at this
    cases this
  rw [upd_ne e]
  exact k2 b u h nb
theorem Keep.free {a : Addr} {H H' : Hp} (k : Keep a H H') {b : Addr} (n : b ≠ a) (h : H' b = none) : H b = none := by
  cases e : H b with
  | none => rfl
  | some o => rw [k b o e n] at h; cases h
/-! ### loops -/
section
variable {σ : L2.St} {H : Hp} {Q : VK} {D : L2.Ends} {g : TG} {tb : TS} {R : It → Hp → Prop}
/-- what a turn of a comprehension is to reach -/
def LcNext (p : Addr) (i : Nat) (G : Nat → List V → Hp → Prop) : VK := fun y H4 => ∃ acc, H4 p = some (.lst acc) ∧ acc.length < sizeLine ∧ ∃ ys, ys.length = i + 1 ∧ upd H4 p (.lst (acc ++ [y])) p = some (.lst ys) ∧ G (i + 1) ys (upd H4 p (.lst (acc ++ [y])))
theorem LcNext.mk {p : Addr} {i : Nat} {G : Nat → List V → Hp → Prop} {y : V} {H4 : Hp} {ys : List V} (h : H4 p = some (.lst ys)) (e : ys.length = i) (hi : i < 100000) (hG : G (i + 1) (ys ++ [y]) (upd H4 p (.lst (ys ++ [y])))) : LcNext p i G y H4 :=
  ⟨ys, h, sizeN (by omega), ys ++ [y], by simp [e], upd_same, hG⟩
end
section
variable {x y : V} {H : Hp} {Q : VK} {K : PySem.W.Frag} {n : Bool}
end
theorem szl {n : Nat} (h : n ≤ 100000) : n ≤ sizeLine := Nat.le_of_lt (sizeN h)
end KB
namespace KB
open PySem PySem.Spec PyProof.Rows L2 TL
/-! ### texts as lists of codes -/
/-- printable signs alone -/
def Pr (z : Str) : Prop := ∀ c ∈ tl z, 32 ≤ c ∧ c < 127
theorem Pr.app {x y : Str} (hx : Pr x) (hy : Pr y) : Pr (x ++ y) := fun c hc => by
  rw [tl_append] at hc
  rcases List.mem_append.mp hc with h | h
  · exact hx c h
  · exact hy c h
theorem pr_one {c : Nat} (h : 32 ≤ c ∧ c < 127) : Pr ⟨#[c]⟩ := fun d hd => by
  have e : d = c := List.mem_singleton.mp hd
  subst e
  exact h
theorem pr_lit {s : String} (h : (s.toList.map Char.toNat).all (fun c => decide (32 ≤ c) && decide (c < 127)) = true) : Pr (Str.ofString s) := fun c hc => by
  rw [tl_ofString] at hc
  have q := List.all_eq_true.mp h c hc
  simpa using q
theorem len_app (x y : Str) : (x ++ y).length = x.length + y.length := by rw [len_tl, tl_append, List.length_append, ← len_tl, ← len_tl]
theorem lit_at {z : Str} {n : Nat} (hn : (tl z).length = n) (h : (tl z).all (fun c => decide (32 ≤ c) && decide (c < 127)) = true) {r : Int} (r0 : 0 ≤ r) (r1 : r < n) : ∃ c, atI z.cps.toList r = some c ∧ 32 ≤ c ∧ c < 127 := by
  obtain ⟨j, rfl⟩ := Int.eq_ofNat_of_zero_le r0
  have hj : j < (tl z).length := by omega
  have q := List.all_eq_true.mp h (tl z)[j] (List.getElem_mem hj)
  simp only [Bool.and_eq_true, decide_eq_true_eq] at q
  exact ⟨(tl z)[j], atI_nat (List.getElem?_eq_getElem hj), q.1, q.2⟩
theorem lit_ex {z : Str} {n : Nat} {R : Nat → Prop} {r : Int} (hn : (tl z).length = n) (h : (tl z).all (fun c => decide (32 ≤ c) && decide (c < 127)) = true) (r0 : 0 ≤ r) (r1 : r < n) (k : ∀ c, 32 ≤ c → c < 127 → R c) : ∃ c, atI z.cps.toList r = some c ∧ R c := by
  obtain ⟨c, e, h1, h2⟩ := lit_at hn h r0 r1
  exact ⟨c, e, k c h1 h2⟩
theorem join_tl (a : Str) (zs : List Str) : tl (Txt.join a zs) = joinL (tl a) (zs.map tl) := by
  rw [join_eq, tl_join]
theorem joinL_nil : ∀ ls : List (List Nat), joinL [] ls = ls.flatten
  | [] => rfl
  | [p] => by simp [joinL]
  | p :: q :: r => by
    show p ++ ([] ++ joinL [] (q :: r)) = _
    rw [joinL_nil (q :: r)]
    simp
theorem join0 (zs : List Str) : tl (Txt.join (Str.ofString "") zs) = (zs.map tl).flatten := by
  rw [join_tl, show tl (Str.ofString "") = [] from by rw [tl_ofString]; rfl, joinL_nil]
theorem join_pr {zs : List Str} (h : ∀ z ∈ zs, Pr z) : Pr (Txt.join (Str.ofString "") zs) := fun c hc => by
  rw [join0] at hc
  obtain ⟨l, hl, h1⟩ := List.mem_flatten.mp hc
  obtain ⟨z, hz, rfl⟩ := List.mem_map.mp hl
  exact h z hz c h1
theorem join_len (zs : List Str) : (Txt.join (Str.ofString "") zs).length = (zs.map (·.length)).sum := by
  rw [len_tl, join0, List.length_flatten, List.map_map]
  refine congrArg List.sum ?_
  exact List.map_congr_left fun z _ => (len_tl z).symm
theorem len_ones {zs : List Str} (h : ∀ z ∈ zs, z.length = 1) : (zs.map (·.length)).sum = zs.length := by
  induction zs with
  | nil => rfl
  | cons z r ih =>
    rw [List.map_cons, List.sum_cons, h z (List.mem_cons_self ..), ih fun z hz => h z (List.mem_cons_of_mem _ hz), List.length_cons]
    omega
theorem tl_neg (n : Nat) (h : 0 < n) : tl (Str.ofString (toString (-(n : Int)))) = 45 :: numL n := by
  obtain ⟨m, rfl⟩ : ∃ m, n = m + 1 := ⟨n - 1, by omega⟩
  have e : toString (-((m + 1 : Nat) : Int)) = "-" ++ toString ((m + 1 : Nat) : Int) := rfl
  rw [e, tl_ofString, String.toList_append, List.map_append]
  rw [show List.map Char.toNat (toString ((m + 1 : Nat) : Int)).toList = numL (m + 1) from (tl_ofString _).symm.trans (tl_num (m + 1))]
  rfl
/-- the codes of str(n) -/
def intL (n : Int) : List Nat := if n < 0 then 45 :: numL n.natAbs else numL n.natAbs
theorem tl_int (n : Int) : tl (Str.ofString (toString n)) = intL n := by
  unfold intL
  split
  · have e : n = -((n.natAbs : Nat) : Int) := by omega
    have h := tl_neg n.natAbs (by omega)
    rw [← e] at h
    exact h
  · have e : n = ((n.natAbs : Nat) : Int) := by omega
    have h := tl_num n.natAbs
    rw [← e] at h
    exact h
theorem intL_sign {n : Int} {c : Nat} (h : c ∈ intL n) : c = 45 ∨ (48 ≤ c ∧ c ≤ 57) := by
  unfold intL at h
  split at h
  · rcases List.mem_cons.mp h with h | h
    · exact .inl h
    · exact .inr (numL_digits _ c h)
  · exact .inr (numL_digits _ c h)
theorem pr_int (n : Int) : Pr (Str.ofString (toString n)) := fun c hc => by
  rw [tl_int] at hc
  have h := intL_sign hc
  omega
theorem len_int {n : Int} {k : Nat} (hk : 0 < k) (h : n.natAbs < 10 ^ k) : (Str.ofString (toString n)).length ≤ k + 1 := by
  rw [len_tl, tl_int]
  have e := numL_len hk h
  unfold intL
  split
  · rw [List.length_cons]; omega
  · omega
theorem log_int {n : Int} (h : n.natAbs < 10 ^ 30) : n.natAbs.log2 < 1920 := by
  by_cases h0 : n.natAbs = 0
  · rw [h0]; decide
  · exact (Nat.log2_lt h0).mpr (Nat.lt_trans h (by decide +kernel))
theorem pow10 {a b : Nat} (h : a ≤ b) : (10 : Int) ^ a ≤ 10 ^ b := by
  have e := Nat.pow_le_pow_right (by decide : 0 < 10) h
  have e2 : ((10 ^ a : Nat) : Int) ≤ ((10 ^ b : Nat) : Int) := Int.ofNat_le.mpr e
  simpa using e2
def okS (m : Nat) (z : Str) : Bool := (tl z).all (fun c => decide (32 ≤ c) && decide (c < 127)) && decide (z.length ≤ m)
theorem okS_pr {m : Nat} {z : Str} (h : okS m z = true) : Pr z ∧ z.length ≤ m := by
  unfold okS at h
  rw [Bool.and_eq_true] at h
  refine ⟨fun c hc => ?_, of_decide_eq_true h.2⟩
  have q := List.all_eq_true.mp h.1 c hc
  simpa using q
def okV (m : Nat) : V → Bool
  | .str z => okS m z
  | _ => false
theorem menu_at {vs : List V} {n : Nat} {r : Int} (hn : vs.length = n) (r0 : 0 ≤ r) (r1 : r < n) : ∃ v ∈ vs, atI vs r = some v := by
  obtain ⟨j, rfl⟩ := Int.eq_ofNat_of_zero_le r0
  have hj : j < vs.length := by omega
  exact ⟨vs[j], List.getElem_mem hj, atI_nat (List.getElem?_eq_getElem hj)⟩
theorem menu_ex {vs : List V} {n : Nat} {r : Int} {R : V → Prop} (hn : vs.length = n) (r0 : 0 ≤ r) (r1 : r < n) (k : ∀ v ∈ vs, R v) : ∃ v, atI vs r = some v ∧ R v := by
  obtain ⟨v, hv, e⟩ := menu_at hn r0 r1
  exact ⟨v, e, k v hv⟩
/-! ### numbers read from digits -/
theorem digitsVal_snoc (l : List Nat) (c : Nat) : NumText.digitsVal (l ++ [c]) = NumText.digitsVal l * 10 + (c - 48) := by
  unfold NumText.digitsVal
  rw [List.foldl_append]
  rfl
theorem rev_ind {α : Type} {p : List α → Prop} (h0 : p []) (h1 : ∀ l a, p l → p (l ++ [a])) (l : List α) : p l := by
  rw [← List.reverse_reverse l]
  induction l.reverse with
  | nil => exact h0
  | cons a r ih => rw [List.reverse_cons]; exact h1 _ _ ih
theorem digitsVal_lt (l : List Nat) : NumText.AllDigits l → NumText.digitsVal l < 10 ^ l.length := by
  refine rev_ind (p := fun l => NumText.AllDigits l → NumText.digitsVal l < 10 ^ l.length) (fun _ => by decide) (fun r c ih hd => ?_) l
  have hc := hd c (by simp)
  have h1 := ih fun d h => hd d (List.mem_append_left _ h)
  rw [digitsVal_snoc, List.length_append, List.length_singleton, Nat.pow_succ]
  omega
theorem digits30 {l : List Nat} (hd : NumText.AllDigits l) (h : l.length ≤ 30) : NumText.digitsVal l < 10 ^ 30 := Nat.lt_of_lt_of_le (digitsVal_lt l hd) (Nat.pow_le_pow_right (by decide) h)
theorem digits_pos (l : List Nat) : NumText.AllDigits l → l ≠ [] → l.head? ≠ some 48 → 0 < NumText.digitsVal l := by
  refine rev_ind (p := fun l => NumText.AllDigits l → l ≠ [] → l.head? ≠ some 48 → 0 < NumText.digitsVal l) (fun _ h _ => absurd rfl h) (fun r c ih hd _ hh => ?_) l
  rw [digitsVal_snoc]
  have hc := hd c (by simp)
  cases r with
  | nil =>
    have : c ≠ 48 := fun e => hh (by simp [e])
    omega
  | cons x r =>
    have := ih (fun d h => hd d (List.mem_append_left _ h)) (by simp) (by simpa using hh)
    omega
theorem numL_back (l : List Nat) : NumText.AllDigits l → l ≠ [] → (l = [48] ∨ l.head? ≠ some 48) → numL (NumText.digitsVal l) = l := by
  refine rev_ind (p := fun l => NumText.AllDigits l → l ≠ [] → (l = [48] ∨ l.head? ≠ some 48) → numL (NumText.digitsVal l) = l) (fun _ h _ => absurd rfl h) (fun r c ih hd _ hh => ?_) l
  have hc := hd c (by simp)
  have hr : NumText.AllDigits r := fun d h => hd d (List.mem_append_left _ h)
  rw [digitsVal_snoc]
  cases r with
  | nil =>
    rw [show NumText.digitsVal [] * 10 + (c - 48) = c - 48 by simp [NumText.digitsVal]]
    rw [numL_lt (by omega)]
    simp
    omega
  | cons x r =>
    have hx : (x :: r).head? ≠ some 48 := by
      rcases hh with hh | hh
      · have := congrArg List.length hh
        simp at this
      · simpa using hh
    have hp := digits_pos (x :: r) hr (by simp) hx
    rw [numL_step (by omega)]
    rw [show (NumText.digitsVal (x :: r) * 10 + (c - 48)) / 10 = NumText.digitsVal (x :: r) by omega, show (NumText.digitsVal (x :: r) * 10 + (c - 48)) % 10 = c - 48 by omega, ih hr (by simp) (.inr hx)]
    congr 2
    omega
/-! ### digit keys -/
def isDg (c : Nat) : Bool := decide (48 ≤ c) && decide (c ≤ 57)
/-- what stands behind a minus sign, or the whole -/
def body (l : List Nat) : List Nat := if l.head? = some 45 then l.tail else l
def digK (l : List Nat) : Bool := decide (body l ≠ []) && decide ((body l).length ≤ 30) && (body l).all isDg && (decide (l = [48]) || decide ((body l).head? ≠ some 48))
theorem digK_int {z : Str} (h : digK (tl z) = true) : ∃ n, PySem.intText? z = some n ∧ Str.ofString (toString n) = z ∧ z.length ≤ 31 ∧ n.natAbs < 10 ^ 30 := by
  unfold digK at h
  simp only [Bool.and_eq_true, decide_eq_true_eq, Bool.or_eq_true] at h
  obtain ⟨⟨⟨h1, h2⟩, h3⟩, h4⟩ := h
  have hd : NumText.AllDigits (body (tl z)) := fun c hc => by
    have q := List.all_eq_true.mp h3 c hc
    simpa [isDg] using q
  by_cases hm : (tl z).head? = some 45
  · obtain ⟨r, er⟩ : ∃ r, tl z = 45 :: r := by
      cases e : tl z with
      | nil => rw [e] at hm; cases hm
      | cons x r => rw [e] at hm; cases hm; exact ⟨r, rfl⟩
    have eb : body (tl z) = r := by unfold body; rw [if_pos hm, er]; rfl
    rw [eb] at h1 h2 hd h4
    have h0 : r.head? ≠ some 48 := by
      rcases h4 with h4 | h4
      · rw [er] at h4; cases h4
      · exact h4
    have hp := digits_pos r hd h1 h0
    have hl : z.length ≤ 31 := by rw [len_tl, er, List.length_cons]; omega
    refine ⟨-((NumText.digitsVal r : Nat) : Int), intText_neg er hd h1 (by omega), ext_tl ?_, hl, by have := digits30 hd h2; omega⟩
    rw [tl_neg _ hp, er, numL_back r hd h1 (.inr h0)]
  · have eb : body (tl z) = tl z := by unfold body; rw [if_neg hm]
    rw [eb] at h1 h2 hd h4
    have hl : z.length ≤ 31 := by rw [len_tl]; omega
    refine ⟨((NumText.digitsVal (tl z) : Nat) : Int), intText_digits hd h1 (by omega), ext_tl ?_, hl, by have := digits30 hd h2; omega⟩
    rw [tl_num, numL_back _ hd h1 h4]
theorem uni_dig : ∀ c : Nat, c < 127 → Unicode.isDigit c = isDg c := by decide +kernel
theorem isdigit_pr {z : Str} (h : ∀ c ∈ tl z, 32 ≤ c ∧ c < 127) : Txt.isdigit z = (decide (tl z ≠ []) && (tl z).all isDg) := by
  have e1 : (decide (z.length > 0)) = decide (tl z ≠ []) := by
    rw [len_tl]
    cases tl z <;> simp
  have e2 : z.cps.all Unicode.isDigit = (tl z).all isDg := by
    rw [← Array.all_toList]
    rw [Bool.eq_iff_iff, List.all_eq_true, List.all_eq_true]
    exact ⟨fun q c hc => by rw [← uni_dig c (h c hc).2]; exact q c hc, fun q c hc => by rw [uni_dig c (h c hc).2]; exact q c hc⟩
  unfold Txt.isdigit
  rw [e1, e2]
theorem tl_cutS (z : Str) (lo hi : Option Int) : tl (cutS z lo hi) = ((tl z).drop (HT.sIx z.length 0 lo)).take (HT.sIx z.length z.length hi - HT.sIx z.length 0 lo) := rfl
theorem dg_mem (c : Nat) : (c ∈ (Str.ofString "0123456789").cps.toList) ↔ isDg c = true := by
  rw [show (Str.ofString "0123456789").cps.toList = [48, 49, 50, 51, 52, 53, 54, 55, 56, 57] by decide +kernel]
  simp only [isDg, Bool.and_eq_true, decide_eq_true_eq, List.mem_cons, List.not_mem_nil, or_false]
  omega
end KB
namespace KB
open PySem PySem.Spec PyProof.Rows L2 TL
/-! ### raw values -/
inductive Raw where
  | non
  | bl (b : Bool)
  | int (n : Int)
  | str (z : Str)
  | row (rs : List Raw)
  | tab (zs : List Str) (rs : List Raw)
mutual
def Rp (H : Hp) : Raw → V → Prop
  | .non, v => v = .non
  | .bl b, v => v = .bl b
  | .int n, v => v = .int n
  | .str z, v => v = .str z
  | .row rs, v => ∃ t l vs, v = .ref t ∧ H t = some (.tup [.str "row", .ref l]) ∧ H l = some (.lst vs) ∧ RpL H rs vs
  | .tab zs rs, v => ∃ t l vs, v = .ref t ∧ H t = some (.tup [.str "table", .ref l]) ∧ H l = some (.lst vs) ∧ RpP H rs zs vs
def RpL (H : Hp) : List Raw → List V → Prop
  | [], vs => vs = []
  | r :: rs, vs => ∃ v ws, vs = v :: ws ∧ Rp H r v ∧ RpL H rs ws
def RpP (H : Hp) : List Raw → List Str → List V → Prop
  | [], zs, vs => zs = [] ∧ vs = []
  | r :: rs, zs, vs => ∃ z ys t v ws, zs = z :: ys ∧ vs = .ref t :: ws ∧ H t = some (.tup [.str z, v]) ∧ Rp H r v ∧ RpP H rs ys ws
end
mutual
theorem Rp.mono {H H' : Hp} (s : Same H H') : ∀ (r : Raw) (v : V), Rp H r v → Rp H' r v
  | .non, _, h => h
  | .bl _, _, h => h
  | .int _, _, h => h
  | .str _, _, h => h
  | .row rs, v, h => by
    obtain ⟨t, l, vs, e, h1, h2, h3⟩ := h
    exact ⟨t, l, vs, e, s _ _ h1, s _ _ h2, RpL.mono s rs vs h3⟩
  | .tab zs rs, v, h => by
    obtain ⟨t, l, vs, e, h1, h2, h3⟩ := h
    exact ⟨t, l, vs, e, s _ _ h1, s _ _ h2, RpP.mono s rs zs vs h3⟩
theorem RpL.mono {H H' : Hp} (s : Same H H') : ∀ (rs : List Raw) (vs : List V), RpL H rs vs → RpL H' rs vs
  | [], _, h => h
  | r :: rs, _, h => by
    obtain ⟨v, ws, e, h1, h2⟩ := h
    exact ⟨v, ws, e, Rp.mono s r v h1, RpL.mono s rs ws h2⟩
theorem RpP.mono {H H' : Hp} (s : Same H H') : ∀ (rs : List Raw) (zs : List Str) (vs : List V), RpP H rs zs vs → RpP H' rs zs vs
  | [], _, _, h => h
  | r :: rs, _, _, h => by
    obtain ⟨z, ys, t, v, ws, e1, e2, h0, h1, h2⟩ := h
    exact ⟨z, ys, t, v, ws, e1, e2, s _ _ h0, Rp.mono s r v h1, RpP.mono s rs ys ws h2⟩
end
mutual
def nodes : Raw → Nat
  | .row rs => 1 + nodesL rs
  | .tab _ rs => 1 + nodesL rs
  | _ => 1
def nodesL : List Raw → Nat
  | [] => 0
  | r :: rs => nodes r + nodesL rs
end
mutual
def depth : Raw → Nat
  | .row rs => 1 + depthL rs
  | .tab _ rs => 1 + depthL rs
  | _ => 0
def depthL : List Raw → Nat
  | [] => 0
  | r :: rs => max (depth r) (depthL rs)
end
mutual
def OkR : Raw → Prop
  | .non => True
  | .bl _ => True
  | .int n => n.natAbs < 10 ^ 30
  | .str z => Pr z ∧ z.length ≤ 300
  | .row rs => OkL rs
  | .tab zs rs => OkL rs ∧ zs.length = rs.length ∧ ∀ z ∈ zs, Pr z ∧ z.length ≤ 300
def OkL : List Raw → Prop
  | [] => True
  | r :: rs => OkR r ∧ OkL rs
end
theorem RpL.len {H : Hp} : ∀ {rs : List Raw} {vs : List V}, RpL H rs vs → vs.length = rs.length
  | [], _, h => by cases h; rfl
  | r :: rs, _, h => by
    obtain ⟨v, ws, rfl, h1, h2⟩ := h
    rw [List.length_cons, List.length_cons, h2.len]
theorem RpP.len {H : Hp} : ∀ {rs : List Raw} {zs : List Str} {vs : List V}, RpP H rs zs vs → vs.length = rs.length ∧ zs.length = rs.length
  | [], _, _, h => by obtain ⟨rfl, rfl⟩ := h; exact ⟨rfl, rfl⟩
  | r :: rs, _, _, h => by
    obtain ⟨z, ys, t, v, ws, rfl, rfl, h0, h1, h2⟩ := h
    have := h2.len
    simp only [List.length_cons]
    omega
theorem RpL.snoc {H : Hp} : ∀ {rs : List Raw} {vs : List V} {r : Raw} {v : V}, RpL H rs vs → Rp H r v → RpL H (rs ++ [r]) (vs ++ [v])
  | [], _, r, v, h, h1 => by cases h; exact ⟨v, [], rfl, h1, rfl⟩
  | q :: rs, _, r, v, h, h1 => by
    obtain ⟨w, ws, rfl, h2, h3⟩ := h
    exact ⟨w, ws ++ [v], rfl, h2, h3.snoc h1⟩
theorem RpP.snoc {H : Hp} : ∀ {rs : List Raw} {zs : List Str} {vs : List V} {r : Raw} {z : Str} {t : Addr} {v : V}, RpP H rs zs vs → H t = some (.tup [.str z, v]) → Rp H r v → RpP H (rs ++ [r]) (zs ++ [z]) (vs ++ [.ref t])
  | [], _, _, r, z, t, v, h, h0, h1 => by obtain ⟨rfl, rfl⟩ := h; exact ⟨z, [], t, v, [], rfl, rfl, h0, h1, rfl, rfl⟩
  | q :: rs, _, _, r, z, t, v, h, h0, h1 => by
    obtain ⟨y, ys, u, w, ws, rfl, rfl, h3, h4, h5⟩ := h
    exact ⟨y, ys ++ [z], u, w, ws ++ [.ref t], rfl, rfl, h3, h4, h5.snoc h0 h1⟩
theorem RpL.get {H : Hp} : ∀ {rs : List Raw} {vs : List V} {i : Nat} {v : V}, RpL H rs vs → vs[i]? = some v → ∃ r, rs[i]? = some r ∧ Rp H r v
  | [], _, i, v, h, e => by cases h; simp at e
  | q :: rs, _, i, v, h, e => by
    obtain ⟨w, ws, rfl, h2, h3⟩ := h
    cases i with
    | zero => cases e; exact ⟨q, rfl, h2⟩
    | succ i => exact RpL.get (i := i) h3 (by simpa using e)
theorem RpP.get {H : Hp} : ∀ {rs : List Raw} {zs : List Str} {vs : List V} {i : Nat} {v : V}, RpP H rs zs vs → vs[i]? = some v → ∃ r z t u, rs[i]? = some r ∧ zs[i]? = some z ∧ v = .ref t ∧ H t = some (.tup [.str z, u]) ∧ Rp H r u
  | [], _, _, i, v, h, e => by obtain ⟨rfl, rfl⟩ := h; simp at e
  | q :: rs, _, _, i, v, h, e => by
    obtain ⟨y, ys, t, w, ws, rfl, rfl, h3, h4, h5⟩ := h
    cases i with
    | zero => cases e; exact ⟨q, y, t, w, rfl, rfl, rfl, h3, h4⟩
    | succ i => exact RpP.get (i := i) h5 (by simpa using e)
theorem OkL.get : ∀ {rs : List Raw} {i : Nat} {r : Raw}, OkL rs → rs[i]? = some r → OkR r
  | [], i, r, _, e => by simp at e
  | q :: rs, i, r, h, e => by
    cases i with
    | zero => cases e; exact h.1
    | succ i => exact OkL.get (i := i) h.2 (by simpa using e)
theorem OkL.snoc : ∀ {rs : List Raw} {r : Raw}, OkL rs → OkR r → OkL (rs ++ [r])
  | [], r, _, h => ⟨h, trivial⟩
  | q :: rs, r, h, h1 => ⟨h.1, h.2.snoc h1⟩
/-! ### parts of heaps -/
/-- what is new in the second one -/
def new (H H' : Hp) : Hp := fun b => if (H b).isSome then none else H' b
/-! ### a list of flat things compared with [] -/
theorem pr_strOk {z : Str} (h : Pr z) : PyData.strOk z = true := by
  unfold PyData.strOk
  rw [← Array.all_toList, List.all_eq_true]
  intro c hc
  have := (h c hc).2
  exact decide_eq_true (by omega)
/-! ### Keep and raw values -/
/-! ### a list at d grows by new raw values -/
/-! ### the same, where nothing that stood changes -/
end KB
namespace KB
open PySem PySem.Spec PyProof.Rows L2 TL
/-! ### the texts of raw values -/
def escC (c : Nat) : List Nat := if c = 34 ∨ c = 92 then [92, c] else [c]
def esc (l : List Nat) : List Nat := l.flatMap escC
def strL (l : List Nat) : List Nat := 34 :: (esc l ++ [34])
mutual
def rend : Raw → List Nat
  | .non => [110, 117, 108, 108]
  | .bl true => [116, 114, 117, 101]
  | .bl false => [102, 97, 108, 115, 101]
  | .int n => intL n
  | .str z => strL (tl z)
  | .row rs => 91 :: (joinL [44] (rendL rs) ++ [93])
  | .tab zs rs => 123 :: (joinL [44] (rendP rs zs) ++ [125])
def rendL : List Raw → List (List Nat)
  | [] => []
  | r :: rs => rend r :: rendL rs
def rendP : List Raw → List Str → List (List Nat)
  | [], _ => []
  | r :: rs, zs => (strL (tl (zs.headD Str.empty)) ++ 58 :: rend r) :: rendP rs zs.tail
end
theorem esc_len (l : List Nat) : (esc l).length ≤ 2 * l.length := by
  induction l with
  | nil => exact Nat.zero_le _
  | cons c r ih =>
    show (escC c ++ esc r).length ≤ _
    have : (escC c).length ≤ 2 := by unfold escC; split <;> simp
    rw [List.length_append, List.length_cons]
    omega
theorem strL_len (l : List Nat) : (strL l).length ≤ 2 * l.length + 2 := by
  have := esc_len l
  unfold strL
  rw [List.length_cons, List.length_append, List.length_singleton]
  omega
theorem join_sum (s : Nat) : ∀ ls : List (List Nat), (joinL [s] ls).length ≤ (ls.map List.length).sum + ls.length
  | [] => by simp [joinL]
  | [p] => by simp [joinL]
  | p :: q :: r => by
    have ih := join_sum s (q :: r)
    show (p ++ ([s] ++ joinL [s] (q :: r))).length ≤ _
    simp only [List.length_append, List.map_cons, List.sum_cons, List.length_cons, List.length_nil] at ih ⊢
    omega
mutual
theorem rend_len : ∀ r : Raw, OkR r → (rend r).length + 700 ≤ 2000 * nodes r
  | .non, _ => by decide
  | .bl true, _ => by decide
  | .bl false, _ => by decide
  | .int n, h => by
    have := len_int (n := n) (k := 30) (by decide) h
    rw [len_tl, tl_int] at this
    show (intL n).length + 700 ≤ 2000 * 1
    omega
  | .str z, h => by
    have h1 := strL_len (tl z)
    have h2 := h.2
    rw [len_tl] at h2
    show (strL (tl z)).length + 700 ≤ 2000 * 1
    omega
  | .row rs, h => by
    have h1 := rendL_len rs h
    have h2 := join_sum 44 (rendL rs)
    show (91 :: (joinL [44] (rendL rs) ++ [93])).length + 700 ≤ 2000 * (1 + nodesL rs)
    simp only [List.length_cons, List.length_append, List.length_nil]
    omega
  | .tab zs rs, h => by
    have h1 := rendP_len rs zs h.1 h.2.2
    have h2 := join_sum 44 (rendP rs zs)
    show (123 :: (joinL [44] (rendP rs zs) ++ [125])).length + 700 ≤ 2000 * (1 + nodesL rs)
    simp only [List.length_cons, List.length_append, List.length_nil]
    omega
theorem rendL_len : ∀ rs : List Raw, OkL rs → ((rendL rs).map List.length).sum + (rendL rs).length ≤ 2000 * nodesL rs
  | [], _ => Nat.le_refl _
  | r :: rs, h => by
    have h1 := rend_len r h.1
    have h2 := rendL_len rs h.2
    show ((rend r :: rendL rs).map List.length).sum + (rend r :: rendL rs).length ≤ 2000 * (nodes r + nodesL rs)
    simp only [List.map_cons, List.sum_cons, List.length_cons]
    have : 1 ≤ nodes r := by cases r <;> simp [nodes] <;> omega
    omega
theorem rendP_len : ∀ (rs : List Raw) (zs : List Str), OkL rs → (∀ z ∈ zs, Pr z ∧ z.length ≤ 300) → ((rendP rs zs).map List.length).sum + (rendP rs zs).length ≤ 2000 * nodesL rs
  | [], _, _, _ => Nat.zero_le _
  | r :: rs, zs, h, hz => by
    have h1 := rend_len r h.1
    have h2 := rendP_len rs zs.tail h.2 fun z hz' => hz z (List.mem_of_mem_tail hz')
    have h3 := strL_len (tl (zs.headD Str.empty))
    have h4 : (tl (zs.headD Str.empty)).length ≤ 300 := by
      cases zs with
      | nil => decide
      | cons z zs => rw [← len_tl]; exact (hz z (List.mem_cons_self ..)).2
    show (((strL (tl (zs.headD Str.empty)) ++ 58 :: rend r) :: rendP rs zs.tail).map List.length).sum + ((strL (tl (zs.headD Str.empty)) ++ 58 :: rend r) :: rendP rs zs.tail).length ≤ 2000 * (nodes r + nodesL rs)
    simp only [List.map_cons, List.sum_cons, List.length_cons, List.length_append]
    have : 1 ≤ nodes r := by cases r <;> simp [nodes] <;> omega
    omega
end
/-! ### replace -/
theorem repl_one {c : Nat} {z : List Nat} : ∀ l : List Nat, PySem.StrLaws.replL [c] z l = l.flatMap fun d => if d = c then z else [d]
  | [] => PySem.StrLaws.replL_nil
  | d :: r => by
    by_cases h : d = c
    · subst h
      rw [PySem.StrLaws.replL_hit (by simp) (by simp)]
      show z ++ PySem.StrLaws.replL [d] z r = _
      rw [repl_one r, List.flatMap_cons, if_pos rfl]
    · rw [PySem.StrLaws.replL_miss (by simpa using h), repl_one r, List.flatMap_cons, if_neg h]
      rfl
theorem repl_two (x : Str) : tl (Txt.replace (Txt.replace x (Str.ofString "\\") (Str.ofString "\\\\")) (Str.ofString "\"") (Str.ofString "\\\"")) = esc (tl x) := by
  have e1 := PySem.StrLaws.replace_list (x := x) (y := Str.ofString "\\") (z := Str.ofString "\\\\") (by decide +kernel)
  have e2 := PySem.StrLaws.replace_list (x := Txt.replace x (Str.ofString "\\") (Str.ofString "\\\\")) (y := Str.ofString "\"") (z := Str.ofString "\\\"") (by decide +kernel)
  rw [show (Str.ofString "\\").cps.toList = [92] by decide +kernel, show (Str.ofString "\\\\").cps.toList = [92, 92] by decide +kernel, repl_one] at e1
  rw [show (Str.ofString "\"").cps.toList = [34] by decide +kernel, show (Str.ofString "\\\"").cps.toList = [92, 34] by decide +kernel, repl_one, e1] at e2
  show (Txt.replace (Txt.replace x (Str.ofString "\\") (Str.ofString "\\\\")) (Str.ofString "\"") (Str.ofString "\\\"")).cps.toList = esc x.cps.toList
  rw [e2, List.flatMap_assoc]
  unfold esc
  congr 1
  funext c
  unfold escC
  by_cases h : c = 92
  · subst h; decide
  · rw [if_neg h]
    by_cases h2 : c = 34
    · subst h2; decide
    · simp [h, h2]
theorem repl_len1 (x : Str) : (Txt.replace x (Str.ofString "\\") (Str.ofString "\\\\")).length ≤ 2 * x.length := by
  have e1 := PySem.StrLaws.replace_list (x := x) (y := Str.ofString "\\") (z := Str.ofString "\\\\") (by decide +kernel)
  rw [show (Str.ofString "\\").cps.toList = [92] by decide +kernel, show (Str.ofString "\\\\").cps.toList = [92, 92] by decide +kernel, repl_one] at e1
  rw [len_tl, show tl (Txt.replace x (Str.ofString "\\") (Str.ofString "\\\\")) = _ from e1, len_tl]
  show (List.flatMap _ (tl x)).length ≤ _
  induction tl x with
  | nil => exact Nat.zero_le _
  | cons c r ih =>
    rw [List.flatMap_cons, List.length_append, List.length_cons]
    have : (if c = 92 then [92, 92] else [c]).length ≤ 2 := by split <;> simp
    omega
theorem nodes_pos (r : Raw) : 1 ≤ nodes r := by cases r <;> simp [nodes] <;> omega
/-! ### tokens -/
mutual
def toks : Raw → List (List Nat)
  | .row rs => [91] :: (tokL rs ++ [[93]])
  | .tab zs rs => [123] :: (tokP rs zs ++ [[125]])
  | .non => [rend .non]
  | .bl b => [rend (.bl b)]
  | .int n => [rend (.int n)]
  | .str z => [rend (.str z)]
def tokL : List Raw → List (List Nat)
  | [] => []
  | r :: rs => toks r ++ tokL' rs
def tokL' : List Raw → List (List Nat)
  | [] => []
  | r :: rs => [44] :: (toks r ++ tokL' rs)
def tokP : List Raw → List Str → List (List Nat)
  | [], _ => []
  | r :: rs, zs => strL (tl (zs.headD Str.empty)) :: [58] :: (toks r ++ tokP' rs zs.tail)
def tokP' : List Raw → List Str → List (List Nat)
  | [], _ => []
  | r :: rs, zs => [44] :: strL (tl (zs.headD Str.empty)) :: [58] :: (toks r ++ tokP' rs zs.tail)
end
theorem joinL_cons (p : List Nat) : ∀ ls : List (List Nat), joinL [44] (p :: ls) = p ++ (ls.map (44 :: ·)).flatten
  | [] => by simp [joinL]
  | q :: r => by
    show p ++ ([44] ++ joinL [44] (q :: r)) = _
    rw [joinL_cons q r]
    simp
mutual
theorem toks_len : ∀ r : Raw, (toks r).length ≤ 6 * nodes r - 3
  | .non => by decide
  | .bl b => by simp [toks, nodes]
  | .int n => by simp [toks, nodes]
  | .str z => by simp [toks, nodes]
  | .row rs => by
    have := tokL_len rs
    show ([91] :: (tokL rs ++ [[93]])).length ≤ 6 * (1 + nodesL rs) - 3
    simp only [List.length_cons, List.length_append, List.length_nil]
    omega
  | .tab zs rs => by
    have := tokP_len rs zs
    show ([123] :: (tokP rs zs ++ [[125]])).length ≤ 6 * (1 + nodesL rs) - 3
    simp only [List.length_cons, List.length_append, List.length_nil]
    omega
theorem tokL_len : ∀ rs : List Raw, (tokL rs).length ≤ 6 * nodesL rs
  | [] => Nat.le_refl _
  | r :: rs => by
    have h1 := toks_len r
    have h2 := tokL'_len rs
    have := nodes_pos r
    show (toks r ++ tokL' rs).length ≤ 6 * (nodes r + nodesL rs)
    rw [List.length_append]
    omega
theorem tokL'_len : ∀ rs : List Raw, (tokL' rs).length ≤ 6 * nodesL rs
  | [] => Nat.le_refl _
  | r :: rs => by
    have h1 := toks_len r
    have h2 := tokL'_len rs
    have := nodes_pos r
    show ([44] :: (toks r ++ tokL' rs)).length ≤ 6 * (nodes r + nodesL rs)
    rw [List.length_cons, List.length_append]
    omega
theorem tokP_len : ∀ (rs : List Raw) (zs : List Str), (tokP rs zs).length ≤ 6 * nodesL rs
  | [], _ => Nat.le_refl _
  | r :: rs, zs => by
    have h1 := toks_len r
    have h2 := tokP'_len rs zs.tail
    have := nodes_pos r
    show (strL (tl (zs.headD Str.empty)) :: [58] :: (toks r ++ tokP' rs zs.tail)).length ≤ 6 * (nodes r + nodesL rs)
    simp only [List.length_cons, List.length_append]
    omega
theorem tokP'_len : ∀ (rs : List Raw) (zs : List Str), (tokP' rs zs).length ≤ 6 * nodesL rs
  | [], _ => Nat.le_refl _
  | r :: rs, zs => by
    have h1 := toks_len r
    have h2 := tokP'_len rs zs.tail
    have := nodes_pos r
    show ([44] :: strL (tl (zs.headD Str.empty)) :: [58] :: (toks r ++ tokP' rs zs.tail)).length ≤ 6 * (nodes r + nodesL rs)
    simp only [List.length_cons, List.length_append]
    omega
end
end KB
namespace KB
open PySem PySem.Spec PyProof.Rows L2 TL
/-! ### the class Table as the top has made it -/
structure TabC (K : PySem.W.Frag) (mg : Str → Option Value) (C : Addr) : Prop where
  cl : Cls K C
  nH : NoAttr K C "held"
  mgC : mg "Table" = some (.ref C)
  kC : PySem.W.keepIn K (.ref C) = true
  mak : PySem.W.makesIn K C = true
  ha : PySem.W.findIn K (.ref C) "__class__" = some (some (.builtin "object.__class__"))
  hn : PySem.W.specialIn K (.builtin "object.__class__") "__get__" = some (some (.builtin "getset_descriptor.__get__"))
  ht : PySem.W.takesIn K (.builtin "object.__class__") = some true
  hm : PySem.W.mroIn K C (.type "object") = some true
  own : PySem.W.kitOne K (.ref C) (.ref C) = some true
  c_non : PySem.W.kitOne K (.type "NoneType") (.ref C) = some false
  c_bool : PySem.W.kitOne K (.type "bool") (.ref C) = some false
  c_int : PySem.W.kitOne K (.type "int") (.ref C) = some false
  c_str : PySem.W.kitOne K (.type "str") (.ref C) = some false
  c_list : PySem.W.kitOne K (.type "list") (.ref C) = some false
  c_tuple : PySem.W.kitOne K (.type "tuple") (.ref C) = some false
  c_dict : PySem.W.kitOne K (.type "dict") (.ref C) = some false
  t_int : PySem.W.kitOne K (.ref C) (.type "int") = some false
  t_bool : PySem.W.kitOne K (.ref C) (.type "bool") = some false
  t_str : PySem.W.kitOne K (.ref C) (.type "str") = some false
  t_list : PySem.W.kitOne K (.ref C) (.type "list") = some false
  t_tuple : PySem.W.kitOne K (.ref C) (.type "tuple") = some false
theorem TabC.non {K : PySem.W.Frag} {mg : Str → Option Value} {C : Addr} (T : TabC K mg C) {H : Hp} {x : V} {n : String} (h : TyN H x n) : PySem.W.kitOne K (.type n) (.ref C) = some false := by
  unfold TyN at h
  split at h
  · subst h; exact T.c_non
  · subst h; exact T.c_bool
  · subst h; exact T.c_int
  · subst h; exact T.c_str
  · rcases h with ⟨_, _, rfl⟩ | ⟨_, _, rfl⟩ | ⟨_, _, rfl⟩
    · exact T.c_list
    · exact T.c_tuple
    · exact T.c_dict
  · exact h.elim
theorem TyN.one {H : Hp} {x : V} {m n : String} (h : TyN H x m) (g : TyN H x n) : m = n := by
  unfold TyN at h g
  split at h
  · subst h; subst g; rfl
  · subst h; subst g; rfl
  · subst h; subst g; rfl
  · subst h; subst g; rfl
  · rcases h with ⟨_, e, rfl⟩ | ⟨_, e, rfl⟩ | ⟨_, e, rfl⟩ <;> rcases g with ⟨_, e', rfl⟩ | ⟨_, e', rfl⟩ | ⟨_, e', rfl⟩ <;> first | rfl | (rw [e] at e'; cases e')
  · exact h.elim
def isBT (T : String) : Bool := T == "int" || T == "bool" || T == "str" || T == "list" || T == "tuple"
theorem isBT_mem {T : String} (h : isBT T = true) : T = "int" ∨ T = "bool" ∨ T = "str" ∨ T = "list" ∨ T = "tuple" := by
  unfold isBT at h
  simp only [Bool.or_eq_true, beq_iff_eq] at h
  rcases h with (((h | h) | h) | h) | h <;> simp [h]
/-- what isinstance says of a value and a class: a built-in one or Table -/
inductive IsT (C : Addr) (H : Hp) : V → V → Bool → Prop where
  | ty {x : V} {n T : String} {b : Bool} (h : TyN H x n) (k : kitB n T = some b) : IsT C H x (.ty T) b
  | tab {a dx : Addr} {fs : List (Str × V)} {T : String} (h : H a = some (.ins C dx fs)) (k : isBT T = true) : IsT C H (.ref a) (.ty T) false
  | no {x : V} {n : String} (h : TyN H x n) : IsT C H x (.ref C) false
  | own {a dx : Addr} {fs : List (Str × V)} (h : H a = some (.ins C dx fs)) : IsT C H (.ref a) (.ref C) true
theorem IsT.rule {K : PySem.W.Frag} {mg : Str → Option Value} {C : Addr} (T : TabC K mg C) {H : Hp} {x c : V} {b : Bool} (h : IsT C H x c b) : ∃ t u, ClsV c u ∧ TyX K H x t ∧ PySem.W.kitOne K t u = some b := by
  cases h with
  | ty h k => exact ⟨_, _, .ty _, h.ty, kit_ty k⟩
  | tab h k =>
    refine ⟨_, _, .ty _, .base (.ins h T.cl T.ha T.hn T.ht T.hm), ?_⟩
    rcases isBT_mem k with rfl | rfl | rfl | rfl | rfl
    · exact T.t_int
    · exact T.t_bool
    · exact T.t_str
    · exact T.t_list
    · exact T.t_tuple
  | no h => exact ⟨_, _, .own C, h.ty, T.non h⟩
  | own h => exact ⟨_, _, .own C, .base (.ins h T.cl T.ha T.hn T.ht T.hm), T.own⟩
section
variable {X : Cx} {C : Addr}
end
/-! ### the readings -/
section
variable {C a D : Addr} {H : Hp} {Q : VK} {T : String} {b : Bool} {x c : V}
end
end KB
namespace KB
open PySem PySem.Spec PyProof.Rows L2 TL
/-! ### values of the program -/
inductive Val where
  | non
  | bl (b : Bool)
  | int (n : Int)
  | str (z : Str)
  | lst (vs : List Val)
  | tup (vs : List Val)
  | tab (ks : List Key) (vs : List Val)
mutual
def RpV (C : Addr) (H : Hp) : Val → V → Prop
  | .non, v => v = .non
  | .bl b, v => v = .bl b
  | .int n, v => v = .int n
  | .str z, v => v = .str z
  | .lst vs, v => ∃ a ws, v = .ref a ∧ H a = some (.lst ws) ∧ RpVL C H vs ws
  | .tup vs, v => ∃ a ws, v = .ref a ∧ H a = some (.tup ws) ∧ RpVL C H vs ws
  | .tab ks vs, v => ∃ a dx d ws, v = .ref a ∧ H a = some (.ins C dx [("held", .ref d)]) ∧ H d = some (.dK (ks.zip ws)) ∧ ks.Nodup ∧ ks.length = vs.length ∧ RpVL C H vs ws
def RpVL (C : Addr) (H : Hp) : List Val → List V → Prop
  | [], ws => ws = []
  | v :: vs, ws => ∃ w us, ws = w :: us ∧ RpV C H v w ∧ RpVL C H vs us
end
section
variable {C : Addr} {H H' : Hp}
mutual
theorem RpV.mono (s : Same H H') : ∀ (x : Val) (v : V), RpV C H x v → RpV C H' x v
  | .non, _, h => h
  | .bl _, _, h => h
  | .int _, _, h => h
  | .str _, _, h => h
  | .lst vs, v, h => by
    obtain ⟨a, ws, e, h1, h2⟩ := h
    exact ⟨a, ws, e, s _ _ h1, RpVL.mono s vs ws h2⟩
  | .tup vs, v, h => by
    obtain ⟨a, ws, e, h1, h2⟩ := h
    exact ⟨a, ws, e, s _ _ h1, RpVL.mono s vs ws h2⟩
  | .tab ks vs, v, h => by
    obtain ⟨a, dx, d, ws, e, h1, h2, h3, h4, h5⟩ := h
    exact ⟨a, dx, d, ws, e, s _ _ h1, s _ _ h2, h3, h4, RpVL.mono s vs ws h5⟩
theorem RpVL.mono (s : Same H H') : ∀ (vs : List Val) (ws : List V), RpVL C H vs ws → RpVL C H' vs ws
  | [], _, h => h
  | v :: vs, _, h => by
    obtain ⟨w, us, e, h1, h2⟩ := h
    exact ⟨w, us, e, RpV.mono s v w h1, RpVL.mono s vs us h2⟩
end
theorem RpVL.len : ∀ {vs : List Val} {ws : List V}, RpVL C H vs ws → ws.length = vs.length
  | [], _, h => by cases h; rfl
  | v :: vs, _, h => by
    obtain ⟨w, us, rfl, h1, h2⟩ := h
    rw [List.length_cons, List.length_cons, h2.len]
theorem RpVL.snoc : ∀ {vs : List Val} {ws : List V} {v : Val} {w : V}, RpVL C H vs ws → RpV C H v w → RpVL C H (vs ++ [v]) (ws ++ [w])
  | [], _, v, w, h, h1 => by cases h; exact ⟨w, [], rfl, h1, rfl⟩
  | x :: vs, _, v, w, h, h1 => by
    obtain ⟨y, us, rfl, h2, h3⟩ := h
    exact ⟨y, us ++ [w], rfl, h2, h3.snoc h1⟩
theorem RpVL.get : ∀ {vs : List Val} {ws : List V} {i : Nat} {w : V}, RpVL C H vs ws → ws[i]? = some w → ∃ v, vs[i]? = some v ∧ RpV C H v w
  | [], _, i, w, h, e => by cases h; simp at e
  | x :: vs, _, i, w, h, e => by
    obtain ⟨y, us, rfl, h2, h3⟩ := h
    cases i with
    | zero => cases e; exact ⟨x, rfl, h2⟩
    | succ i => exact RpVL.get (i := i) h3 (by simpa using e)
end
mutual
def vparts : Val → Nat
  | .lst vs => 1 + vpartsL vs
  | .tup vs => 1 + vpartsL vs
  | .tab _ vs => 1 + vpartsL vs
  | _ => 1
def vpartsL : List Val → Nat
  | [] => 0
  | v :: vs => vparts v + vpartsL vs
end
mutual
def vdepth : Val → Nat
  | .lst vs => 1 + vdepthL vs
  | .tup vs => 1 + vdepthL vs
  | .tab _ vs => 1 + vdepthL vs
  | _ => 0
def vdepthL : List Val → Nat
  | [] => 0
  | v :: vs => max (vdepth v) (vdepthL vs)
end
/-! ### a part of the heap, and what is new -/
section
variable {σ : L2.St} {H : Hp} {Q : VK} {D : L2.Ends} {K : PySem.W.Frag}
end
/-! ### a class called, a method called -/
structure NewC (P : Program) (w : World) (K : PySem.W.Frag) (mg : Str → Option Value) (base : Heap) (k : Nat) (x : Str) (C : Addr) (sp : Sp) : Prop where
  ex : ∃ (f : Addr) (fd : FuncData) (ps : List Str) (spI : Sp), Mk K C f ∧ mg x = some (.ref C) ∧ Binds K fd ps [] ∧ FnOk P w K mg base CX0 k f fd ps spI ∧
    ∀ vs H Q, sp vs H Q E0 → ∀ a dx, H a = none → H dx = none → dx ≠ a → spI (.ref a :: vs) (upd (upd H dx (.own a)) a (.ins C dx [])) (fun v H2 => v = .non ∧ Q (.ref a) H2) E0
/-- a method by its class -/
structure MthC (P : Program) (w : World) (K : PySem.W.Frag) (mg : Str → Option Value) (base : Heap) (k : Nat) (C : Addr) (m : Str) (ps : List Str) (sp : Sp) : Prop where
  ex : ∃ (f : Addr) (fd : FuncData), Meth K C m f ∧ Binds K fd ps [] ∧ FnOk P w K mg base CX0 k f fd ps sp
/-- a def of a class, as the top has made it (defaults: dvs) -/
structure DefM (K : PySem.W.Frag) (C : Addr) (m qual : Str) (st : Stmt) (dvs : List V) : Prop where
  ex : ∃ (f : Addr) (fd : FuncData), FunD K m qual (defArgs st) (defBody st) (defScope st) dvs [] f fd ∧ PySem.W.findIn K (.ref C) m = some (some (.ref f)) ∧ PySem.W.isFn K (.ref f) = true
section
variable {X : Cx} {k : Nat} {x : Str} {C : Addr} {sp : Sp} {p pos : Pos} {e : Expr} {es : List Expr} {t : TA}
theorem PE.wk {e : Expr} {t t' : TE} (h : PE X e t) (w : ∀ σ H Q, t' σ H Q → t σ H Q) : PE X e t' := ⟨fun pins s σ H Q I q => h.run pins s σ H Q I (w _ _ _ q)⟩
end
/-! ### for over a list or a tuple -/
def iSeq (K : PySem.W.Frag) (tl : TE) : TI := fun σ H R => tl σ H fun x H1 => ∃ a, x = .ref a ∧ (((∃ xs, SqL K H1 a xs) ∧ R (Itl K a) H1) ∨ ((∃ xs, SqT K H1 a xs) ∧ R (Itt K a) H1))
section
variable {X : Cx} {tg : Expr}
theorem pi_seq {l : Expr} {tl : TE} (hl : PE X l tl) : PI X tg l (iSeq X.K tl) := by
  refine ⟨fun pins s σ H R I h => ?_⟩
  refine thn (hl.run pins s σ H _ I h) fun v s1 ⟨x, H1, I1, r1, q1⟩ => ?_
  obtain ⟨a, e, ⟨⟨xs, hq⟩, q⟩ | ⟨⟨xs, hq⟩, q⟩⟩ := q1
  · subst e
    cases r1
    obtain ⟨its, rv, p, hz⟩ := I1.list hq
    refine wpAny_pyIter_list p.isList ?_
    refine ⟨s1.heap.objs.size, [s1.heap.objs.size], _, _, H1, rfl, I1.kept (t' := s1.toks) fun b o e => Heap.get?_push_of_some _ e, turn_list a _, ⟨_, Heap.get?_push_size _ rfl, rfl, rfl⟩, fun b hb => ?_, q⟩
    have e : b = s1.heap.objs.size := by simpa using hb
    subst e
    exact I1.fpOk (Nat.le_refl _) (I1.hok.fresh (Nat.le_refl _))
  · subst e
    cases r1
    obtain ⟨its, rv, p, hz⟩ := I1.tuple hq
    refine wpAny_pyIter_tuple (show s1.heap.IsTuple a its.toArray from p) ?_
    refine ⟨s1.heap.objs.size, [s1.heap.objs.size], _, _, H1, rfl, I1.kept (t' := s1.toks) fun b o e => Heap.get?_push_of_some _ e, turn_tuple a _, ⟨_, Heap.get?_push_size _ rfl, rfl, rfl⟩, fun b hb => ?_, q⟩
    have e : b = s1.heap.objs.size := by simpa using hb
    subst e
    exact I1.fpOk (Nat.le_refl _) (I1.hok.fresh (Nat.le_refl _))
end
section
variable {P : Program} {w : World} {K : PySem.W.Frag} {mg : Str → Option Value} {base : Heap} {C : Addr}
/-- a class by its __init__ (one default, every argument written) -/
theorem DefM.new {x qual : Str} {st : Stmt} {dv : V} {N ps : List Str} {k : Nat} {sp spI : Sp} (D : DefM K C "__init__" qual st [dv]) (hmk : PySem.W.makesIn K C = true) (hkp : PySem.W.keepIn K (.ref C) = true) (g : mg x = some (.ref C)) (S : FnScope N ps (defScope st))
    (hb : ∀ (T : Addr) (kV doc pm : Value) (an : Option Addr) (cdv ct : Value) (us its : List Value), us.length = ps.length → its.length = 1 →
      ∃ k, bindArgs (PySem.W.fnOf "__init__" qual (defArgs st) (defBody st) (defScope st) (.ref T) kV doc pm an cdv ct) ⟨us, []⟩ = seqItems? (.ref T) >>= k ∧ k (some its.toArray) = pure (ps.zip (us ++ its.drop 1)))
    (len : ∀ vs H Q E, spI vs H Q E → vs.length = ps.length)
    (hbody : ∀ (f : Addr) (cdv : Value) (A : Around) (outer : List Env) (s : Shared) (H : Hp) (vs : List V) (Q : VK) (E : XK), Room k (A.deeper (envOfC qual (defScope st) s.heap.objs.size f cdv)) → spI vs H Q E →
      ∃ t, PSs (cxOf CX0 P w K mg base N qual (defScope st) f cdv A outer s H E).nox (defBody st) t ∧ t { nx := fun _ H' => Q .non H', rt := Q } (start N vs) H)
    (hw : ∀ vs H Q, sp vs H Q E0 → ∀ a dx, H a = none → H dx = none → dx ≠ a → spI (.ref a :: vs) (upd (upd H dx (.own a)) a (.ins C dx [])) (fun v H2 => v = .non ∧ Q (.ref a) H2) E0) : NewC P w K mg base (k + 1) x C sp := by
  obtain ⟨f, fd, F, h1, h2⟩ := D.ex
  obtain ⟨ds, v, b⟩ := F.binds1 (ps := ps) ps.length 1 (by simp) (by simp) (fun T kV doc pm an cdv ct us its h3 h4 => hb T kV doc pm an cdv ct us its h3 h4)
  cases v
  refine ⟨f, fd, ps, spI, ⟨hmk, h1, h2, hkp⟩, g, b, F.ok S len fun cdv A outer s H vs Q E hr hq => ?_, hw⟩
  obtain ⟨t, h, q⟩ := hbody f cdv A outer s H vs Q E hr hq
  exact ⟨t, h.nox, q⟩
end
/-! ### tuple(xs), list(xs) -/
/-! ### a list at d grows by parts that were there (in G) or are new -/
section
variable {G H H2 H3 : Hp} {d : Addr} {o u : HO}
theorem sub_none (g : Same G H) {b : Addr} (h : H b = none) : G b = none := g.free h
end
/-! ### dicts by keys -/
/-- entries: a list of pairs -/
def Ents (H : Hp) : List V → List Key → List V → Prop
  | [], ks, ws => ks = [] ∧ ws = []
  | e :: es, ks, ws => ∃ t k ks' w ws', e = .ref t ∧ ks = k :: ks' ∧ ws = w :: ws' ∧ H t = some (.tup [kV k, w]) ∧ Ents H es ks' ws'
theorem Ents.mono {H H' : Hp} (s : Same H H') : ∀ {es : List V} {ks : List Key} {ws : List V}, Ents H es ks ws → Ents H' es ks ws
  | [], _, _, h => h
  | e :: es, _, _, h => by
    obtain ⟨t, k, ks', w, ws', e1, e2, e3, h1, h2⟩ := h
    exact ⟨t, k, ks', w, ws', e1, e2, e3, s _ _ h1, h2.mono s⟩
theorem Ents.get {H : Hp} : ∀ {es : List V} {ks : List Key} {ws : List V} {i : Nat} {e : V}, Ents H es ks ws → es[i]? = some e → ∃ t k w, e = .ref t ∧ ks[i]? = some k ∧ ws[i]? = some w ∧ H t = some (.tup [kV k, w])
  | [], _, _, i, e, h, he => by simp at he
  | x :: es, _, _, i, e, h, he => by
    obtain ⟨t, k, ks', w, ws', rfl, rfl, rfl, h1, h2⟩ := h
    cases i with
    | zero => cases he; exact ⟨t, k, w, rfl, rfl, rfl, h1⟩
    | succ i => exact Ents.get (i := i) h2 (by simpa using he)
theorem Ents.len {H : Hp} : ∀ {es : List V} {ks : List Key} {ws : List V}, Ents H es ks ws → ks.length = es.length ∧ ws.length = es.length
  | [], _, _, h => by obtain ⟨rfl, rfl⟩ := h; exact ⟨rfl, rfl⟩
  | x :: es, _, _, h => by
    obtain ⟨t, k, ks', w, ws', rfl, rfl, rfl, h1, h2⟩ := h
    have := h2.len
    simp only [List.length_cons]
    omega
theorem Ents.snoc {H : Hp} : ∀ {es : List V} {ks : List Key} {ws : List V} {t : Addr} {k : Key} {w : V}, Ents H es ks ws → H t = some (.tup [kV k, w]) → Ents H (es ++ [.ref t]) (ks ++ [k]) (ws ++ [w])
  | [], _, _, t, k, w, h, h1 => by obtain ⟨rfl, rfl⟩ := h; exact ⟨t, k, [], w, [], rfl, rfl, rfl, h1, rfl, rfl⟩
  | x :: es, _, _, t, k, w, h, h1 => by
    obtain ⟨t', k', ks', w', ws', rfl, rfl, rfl, h2, h3⟩ := h
    exact ⟨t', k', ks' ++ [k], w', ws' ++ [w], rfl, rfl, rfl, h2, h3.snoc h1⟩
end KB
namespace KQ
open PySem PySem.Spec PyProof.Rows L2 TL KB
/-! ### trees: what values mean, without addresses -/
inductive Tr where
  | non
  | bl (b : Bool)
  | int (n : Int)
  | str (z : Str)
  | ty (n : String)
  | ref (a : Addr)
  | scr (ns : List Int)
  | exc (a d : Addr) (c : Value) (fs : List Str) (xs : List Tr)
  | lst (xs : List Tr)
  | tup (xs : List Tr)
  | dic (ks : List Key) (xs : List Tr)
  | ins (C : Addr) (fs : List Str) (xs : List Tr)
  | opq (o : HO)
  | sem (c : Hp → Addr → HO → Prop)
abbrev Sto := Addr → Option Tr
abbrev Rho := List (Option Tr)
mutual
def Rep (K : PySem.W.Frag) (I : Hp) : Tr → V → Prop
  | .non, v => v = .non
  | .bl b, v => v = .bl b
  | .int n, v => v = .int n
  | .str z, v => v = .str z
  | .ty n, v => v = .ty n
  | .ref a, v => v = .ref a
  | .scr ns, v => ∃ a, v = .ref a ∧ SqL K I a (ns.map V.int)
  | .exc a d c fs xs, v => v = .ref a ∧ ∃ vs, I d = some (.xd (fs.zip vs)) ∧ fs.length = xs.length ∧ RepL K I xs vs
  | .lst xs, v => ∃ a vs, v = .ref a ∧ I a = some (.lst vs) ∧ RepL K I xs vs
  | .tup xs, v => ∃ a vs, v = .ref a ∧ SqT K I a vs ∧ RepL K I xs vs
  | .dic ks xs, v => ∃ a vs, v = .ref a ∧ I a = some (.dK (ks.zip vs)) ∧ ks.length = xs.length ∧ RepL K I xs vs
  | .ins C fs xs, v => ∃ a dx vs, v = .ref a ∧ I a = some (.ins C dx (fs.zip vs)) ∧ fs.length = xs.length ∧ RepL K I xs vs
  | .opq q, v => ∃ a, v = .ref a ∧ I a = some q
  | .sem c, v => ∃ a o, v = .ref a ∧ I a = some o ∧ ∀ I', Same I I' → c I' a o
def RepL (K : PySem.W.Frag) (I : Hp) : List Tr → List V → Prop
  | [], vs => vs = []
  | x :: xs, vs => ∃ v ws, vs = v :: ws ∧ Rep K I x v ∧ RepL K I xs ws
end
theorem sqT_mono {K : PySem.W.Frag} {H H' : Hp} {a : Addr} {xs : List V} (e : Same H H') (h : SqT K H a xs) : SqT K H' a xs := by
  rcases h with (h | ⟨o, h⟩) | h
  · exact .inl (.inl (e _ _ h))
  · exact .inl (.inr ⟨o, e _ _ h⟩)
  · exact .inr h
section
variable {K : PySem.W.Frag} {I I' : Hp}
mutual
theorem Rep.mono (s : Same I I') : ∀ (x : Tr) (v : V), Rep K I x v → Rep K I' x v
  | .non, _, h => h
  | .bl _, _, h => h
  | .int _, _, h => h
  | .str _, _, h => h
  | .ty _, _, h => h
  | .ref _, _, h => h
  | .scr _, _, h => by
    obtain ⟨a, e, h⟩ := h
    exact ⟨a, e, s.seq h⟩
  | .exc a d c fs xs, _, h => by
    obtain ⟨e, vs, h1, h2, h3⟩ := h
    exact ⟨e, vs, s _ _ h1, h2, RepL.mono s xs vs h3⟩
  | .lst xs, _, h => by
    obtain ⟨a, vs, e, h1, h2⟩ := h
    exact ⟨a, vs, e, s _ _ h1, RepL.mono s xs vs h2⟩
  | .tup xs, _, h => by
    obtain ⟨a, vs, e, h1, h2⟩ := h
    exact ⟨a, vs, e, sqT_mono s h1, RepL.mono s xs vs h2⟩
  | .dic ks xs, _, h => by
    obtain ⟨a, vs, e, h1, h2, h3⟩ := h
    exact ⟨a, vs, e, s _ _ h1, h2, RepL.mono s xs vs h3⟩
  | .ins C fs xs, _, h => by
    obtain ⟨a, dx, vs, e, h1, h2, h3⟩ := h
    exact ⟨a, dx, vs, e, s _ _ h1, h2, RepL.mono s xs vs h3⟩
  | .opq q, _, h => by
    obtain ⟨a, e, h1⟩ := h
    exact ⟨a, e, s _ _ h1⟩
  | .sem c, _, h => by
    obtain ⟨a, o, e, h1, h2⟩ := h
    exact ⟨a, o, e, s _ _ h1, fun I2 s2 => h2 I2 (s.trans s2)⟩
theorem RepL.mono (s : Same I I') : ∀ (xs : List Tr) (vs : List V), RepL K I xs vs → RepL K I' xs vs
  | [], _, h => h
  | x :: xs, _, h => by
    obtain ⟨v, ws, e, h1, h2⟩ := h
    exact ⟨v, ws, e, Rep.mono s x v h1, RepL.mono s xs ws h2⟩
end
theorem RepL.nil : RepL K I [] [] := rfl
theorem RepL.cons {x : Tr} {v : V} {xs : List Tr} {vs : List V} (h : Rep K I x v) (t : RepL K I xs vs) : RepL K I (x :: xs) (v :: vs) := ⟨v, vs, rfl, h, t⟩
theorem RepL.len : ∀ {xs : List Tr} {vs : List V}, RepL K I xs vs → vs.length = xs.length
  | [], _, h => by cases h; rfl
  | x :: xs, _, h => by
    obtain ⟨v, ws, rfl, h1, h2⟩ := h
    rw [List.length_cons, List.length_cons, h2.len]
theorem RepL.app : ∀ {xs ys : List Tr} {vs ws : List V}, RepL K I xs vs → RepL K I ys ws → RepL K I (xs ++ ys) (vs ++ ws)
  | [], _, _, _, h, g => by cases h; exact g
  | x :: xs, _, _, _, h, g => by
    obtain ⟨v, ws, rfl, h1, h2⟩ := h
    exact ⟨v, _, rfl, h1, h2.app g⟩
theorem RepL.get : ∀ {xs : List Tr} {vs : List V} {i : Nat} {v : V}, RepL K I xs vs → vs[i]? = some v → ∃ x, xs[i]? = some x ∧ Rep K I x v
  | [], _, i, v, h, e => by cases h; simp at e
  | x :: xs, _, i, v, h, e => by
    obtain ⟨y, us, rfl, h2, h3⟩ := h
    cases i with
    | zero => cases e; exact ⟨x, rfl, h2⟩
    | succ i => exact RepL.get (i := i) h3 (by simpa using e)
theorem RepL.get' : ∀ {xs : List Tr} {vs : List V} {i : Nat} {x : Tr}, RepL K I xs vs → xs[i]? = some x → ∃ v, vs[i]? = some v ∧ Rep K I x v
  | [], _, i, v, h, e => by simp at e
  | x :: xs, _, i, v, h, e => by
    obtain ⟨y, us, rfl, h2, h3⟩ := h
    cases i with
    | zero => cases e; exact ⟨y, rfl, h2⟩
    | succ i => exact RepL.get' (i := i) h3 (by simpa using e)
theorem RepL.drop : ∀ {xs : List Tr} {vs : List V} (n : Nat), RepL K I xs vs → RepL K I (xs.drop n) (vs.drop n)
  | _, _, 0, h => h
  | [], _, n + 1, h => by cases h; exact rfl
  | x :: xs, _, n + 1, h => by
    obtain ⟨v, ws, rfl, h1, h2⟩ := h
    exact RepL.drop n h2
theorem RepL.take : ∀ {xs : List Tr} {vs : List V} (n : Nat), RepL K I xs vs → RepL K I (xs.take n) (vs.take n)
  | _, _, 0, h => rfl
  | [], _, n + 1, h => by cases h; exact rfl
  | x :: xs, _, n + 1, h => by
    obtain ⟨v, ws, rfl, h1, h2⟩ := h
    exact ⟨v, _, rfl, h1, RepL.take n h2⟩
theorem RepL.set : ∀ {xs : List Tr} {vs : List V} {x : Tr} {v : V} (n : Nat), RepL K I xs vs → Rep K I x v → RepL K I (xs.set n x) (vs.set n v)
  | [], _, _, _, n, h, _ => by cases h; exact rfl
  | y :: xs, _, x, v, 0, h, g => by
    obtain ⟨w, ws, rfl, h1, h2⟩ := h
    exact ⟨v, ws, rfl, g, h2⟩
  | y :: xs, _, x, v, n + 1, h, g => by
    obtain ⟨w, ws, rfl, h1, h2⟩ := h
    exact ⟨w, _, rfl, h1, RepL.set n h2 g⟩
theorem RepL.ints : ∀ (ns : List Int), RepL K I (ns.map Tr.int) (ns.map V.int)
  | [] => rfl
  | n :: ns => ⟨_, _, rfl, rfl, RepL.ints ns⟩
end
/-! ### what a cell holds -/
def CRep (K : PySem.W.Frag) (I : Hp) : Tr → HO → Prop
  | .lst xs, o => ∃ vs, o = .lst vs ∧ RepL K I xs vs
  | .dic ks xs, o => ∃ vs, o = .dK (ks.zip vs) ∧ ks.length = xs.length ∧ RepL K I xs vs
  | .ins C fs xs, o => ∃ dx vs, o = .ins C dx (fs.zip vs) ∧ fs.length = xs.length ∧ RepL K I xs vs
  | .opq q, o => o = q
  | .sem c, o => ∀ I' a, Same I I' → c I' a o
  | _, _ => False
theorem CRep.mono {K : PySem.W.Frag} {I I' : Hp} (s : Same I I') {c : Tr} {o : HO} (h : CRep K I c o) : CRep K I' c o := by
  cases c with
  | lst xs => obtain ⟨vs, e, h⟩ := h; exact ⟨vs, e, h.mono s⟩
  | dic ks xs => obtain ⟨vs, e, l, h⟩ := h; exact ⟨vs, e, l, h.mono s⟩
  | ins C fs xs => obtain ⟨dx, vs, e, l, h⟩ := h; exact ⟨dx, vs, e, l, h.mono s⟩
  | opq q => exact h
  | sem c => exact fun I2 a s2 => h I2 a (s.trans s2)
  | _ => exact h.elim
def lk : Option Obj → HO → HO
  | none, o => o
  | some od, o => .frz od o
abbrev Lk := Addr → Option Obj
/-- H holds: the trees' part I (dicts locked by L), the cells S, the frame F -/
structure Hd (K : PySem.W.Frag) (L : Lk) (F H : Hp) (S : Sto) (I : Hp) : Prop where
  sub : ∀ b o, I b = some o → H b = some (lk (L b) o)
  lck : ∀ b od, L b = some od → ∃ kvs, I b = some (.dK kvs)
  cel : ∀ a c, S a = some c → I a = none ∧ F a = none ∧ ∃ o, H a = some o ∧ CRep K I c o
  fra : ∀ b o, F b = some o → H b = some o ∧ I b = none
def put (S : Sto) (a : Addr) (c : Tr) : Sto := fun b => if b = a then some c else S b
theorem put_same {S : Sto} {a : Addr} {c : Tr} : put S a c a = some c := if_pos rfl
theorem put_ne {S : Sto} {a b : Addr} {c : Tr} (h : b ≠ a) : put S a c b = S b := if_neg h
theorem put_put {S : Sto} {a : Addr} {c d : Tr} : put (put S a c) a d = put S a d := by
  funext b; unfold put; split <;> rfl
theorem put_comm {S : Sto} {a b : Addr} {c d : Tr} (h : a ≠ b) : put (put S a c) b d = put (put S b d) a c := by
  funext x; unfold put; split
  · rename_i e; subst e; rw [if_neg h.symm]
  · rfl
section
variable {K : PySem.W.Frag} {L : Lk} {F H : Hp} {S : Sto} {I : Hp} {a b p d : Addr} {o : HO} {c : Tr}
theorem Hd.freeI (h : Hd K L F H S I) (n : H p = none) : I p = none := by
  cases e : I p with
  | none => rfl
  | some o => rw [h.sub p o e] at n; cases n
theorem Hd.freeS (h : Hd K L F H S I) (n : H p = none) : S p = none := by
  cases e : S p with
  | none => rfl
  | some o => obtain ⟨_, _, o, e, _⟩ := h.cel p o e; rw [e] at n; cases n
theorem Hd.freeF (h : Hd K L F H S I) (n : H p = none) : F p = none := by
  cases e : F p with
  | none => rfl
  | some o => rw [(h.fra p o e).1] at n; cases n
theorem Hd.freeL (h : Hd K L F H S I) (n : H p = none) : L p = none := by
  cases e : L p with
  | none => rfl
  | some o => obtain ⟨k, e⟩ := h.lck p o e; rw [h.freeI n] at e; cases e
theorem Hd.lkN (h : Hd K L F H S I) (n : I p = none) : L p = none := by
  cases e : L p with
  | none => rfl
  | some o => obtain ⟨k, e⟩ := h.lck p o e; rw [n] at e; cases e
theorem upd_sub {H' : Hp} {p : Addr} {o : HO} (n : H' p = none) : Same H' (upd H' p o) := fun b u e => by rw [upd_ne (ne_of_none e n)]; exact e
/-- a new thing of the trees -/
theorem Hd.imm (h : Hd K L F H S I) (n : H p = none) : Hd K L F (upd H p o) S (upd I p o) where
  sub := fun b u e => by
    by_cases hb : b = p
    · subst hb; rw [upd_same] at e ⊢; cases e; rw [h.freeL n]; rfl
    · rw [upd_ne hb] at e ⊢; exact h.sub b u e
  lck := fun b od e => by
    obtain ⟨k, e⟩ := h.lck b od e
    exact ⟨k, by rw [upd_ne (ne_of_none e (h.freeI n))]; exact e⟩
  cel := fun a c e => by
    obtain ⟨h1, h2, o', h3, h4⟩ := h.cel a c e
    have hn : a ≠ p := ne_of_none h3 n
    exact ⟨by rw [upd_ne hn]; exact h1, h2, o', by rw [upd_ne hn]; exact h3, h4.mono (upd_sub (h.freeI n))⟩
  fra := fun b u e => by
    obtain ⟨h1, h2⟩ := h.fra b u e
    have hn : b ≠ p := ne_of_none h1 n
    exact ⟨by rw [upd_ne hn]; exact h1, by rw [upd_ne hn]; exact h2⟩
/-- a new thing that nobody tracks -/
theorem Hd.un (h : Hd K L F H S I) (n : H p = none) : Hd K L F (upd H p o) S I where
  sub := fun b u e => by rw [upd_ne (ne_of_none (h.sub b u e) n)]; exact h.sub b u e
  lck := h.lck
  cel := fun a c e => by
    obtain ⟨h1, h2, o', h3, h4⟩ := h.cel a c e
    exact ⟨h1, h2, o', by rw [upd_ne (ne_of_none h3 n)]; exact h3, h4⟩
  fra := fun b u e => by
    obtain ⟨h1, h2⟩ := h.fra b u e
    exact ⟨by rw [upd_ne (ne_of_none h1 n)]; exact h1, h2⟩
/-- a new cell -/
theorem Hd.cell (h : Hd K L F H S I) (n : H p = none) (r : CRep K I c o) : Hd K L F (upd H p o) (put S p c) I where
  sub := (h.un n).sub
  lck := h.lck
  cel := fun a c' e => by
    by_cases ha : a = p
    · subst ha; rw [put_same] at e; cases e
      exact ⟨h.freeI n, h.freeF n, o, upd_same, r⟩
    · rw [put_ne ha] at e
      exact (h.un n).cel a c' e
  fra := (h.un n).fra
/-- a cell is changed -/
theorem Hd.mut (h : Hd K L F H S I) {c0 : Tr} (e0 : S a = some c0) (r : CRep K I c o) : Hd K L F (upd H a o) (put S a c) I := by
  obtain ⟨i0, f0, _⟩ := h.cel a c0 e0
  refine ⟨fun b u e => ?_, h.lck, fun b c' e => ?_, fun b u e => ?_⟩
  · rw [upd_ne (ne_of_none e i0)]; exact h.sub b u e
  · by_cases hb : b = a
    · subst hb; rw [put_same] at e; cases e
      exact ⟨i0, f0, o, upd_same, r⟩
    · rw [put_ne hb] at e
      obtain ⟨h1, h2, o', h3, h4⟩ := h.cel b c' e
      exact ⟨h1, h2, o', by rw [upd_ne hb]; exact h3, h4⟩
  · obtain ⟨h1, h2⟩ := h.fra b u e
    exact ⟨by rw [upd_ne (ne_of_none e f0)]; exact h1, h2⟩
/-- into the frame -/
theorem Hd.frame (h : Hd K L F H S I) (n : H p = none) : Hd K L (upd F p o) (upd H p o) S I where
  sub := (h.un n).sub
  lck := h.lck
  cel := fun a c e => by
    obtain ⟨h1, h2, o', h3, h4⟩ := h.cel a c e
    have hn : a ≠ p := ne_of_none h3 n
    exact ⟨h1, by rw [upd_ne hn]; exact h2, o', by rw [upd_ne hn]; exact h3, h4⟩
  fra := fun b u e => by
    by_cases hb : b = p
    · subst hb; rw [upd_same] at e ⊢; exact ⟨e, h.freeI n⟩
    · rw [upd_ne hb] at e ⊢; exact h.fra b u e
/-- what stands in the frame is changed -/
theorem Hd.refr {u : HO} (h : Hd K L (upd F p u) H S I) : Hd K L (upd F p o) (upd H p o) S I := by
  obtain ⟨hp, ip⟩ := h.fra p u upd_same
  refine ⟨fun b v e => ?_, h.lck, fun a c e => ?_, fun b v e => ?_⟩
  · rw [upd_ne (ne_of_none e ip)]; exact h.sub b v e
  · obtain ⟨h1, h2, o', h3, h4⟩ := h.cel a c e
    have hn : a ≠ p := fun z => by subst z; rw [upd_same] at h2; cases h2
    exact ⟨h1, by rw [upd_ne hn] at h2 ⊢; exact h2, o', by rw [upd_ne hn]; exact h3, h4⟩
  · by_cases hb : b = p
    · subst hb; rw [upd_same] at e ⊢; exact ⟨e, ip⟩
    · rw [upd_ne hb] at e ⊢
      exact h.fra b v (by rw [upd_ne hb]; exact e)
/-- out of the frame to the trees -/
theorem Hd.unframe (h : Hd K L (upd F p o) H S I) (n : F p = none) : Hd K L F H S (upd I p o) := by
  obtain ⟨hp, ip⟩ := h.fra p o upd_same
  refine ⟨fun b v e => ?_, fun b od e => ?_, fun a c e => ?_, fun b v e => ?_⟩
  · by_cases hb : b = p
    · subst hb; rw [upd_same] at e; cases e; rw [h.lkN ip]; exact hp
    · rw [upd_ne hb] at e; exact h.sub b v e
  · obtain ⟨k, e⟩ := h.lck b od e
    exact ⟨k, by rw [upd_ne (ne_of_none e ip)]; exact e⟩
  · obtain ⟨h1, h2, o', h3, h4⟩ := h.cel a c e
    have hn : a ≠ p := fun z => by subst z; rw [upd_same] at h2; cases h2
    exact ⟨by rw [upd_ne hn]; exact h1, by rw [upd_ne hn] at h2; exact h2, o', h3, h4.mono (upd_sub ip)⟩
  · have hn : b ≠ p := ne_of_none e n
    obtain ⟨h1, h2⟩ := h.fra b v (by rw [upd_ne hn]; exact e)
    exact ⟨h1, by rw [upd_ne hn]; exact h2⟩
theorem Hd.fewer {S' : Sto} (h : Hd K L F H S I) (s : ∀ a c, S' a = some c → S a = some c) : Hd K L F H S' I := ⟨h.sub, h.lck, fun a c e => h.cel a c (s a c e), h.fra⟩
theorem Hd.lessF {F' : Hp} (h : Hd K L F H S I) (s : Same F' F) : Hd K L F' H S I := ⟨h.sub, h.lck, fun a c e => by
  obtain ⟨h1, h2, h3⟩ := h.cel a c e
  exact ⟨h1, s.free h2, h3⟩, fun b o e => h.fra b o (s b o e)⟩
/-- to the trees: what stands in H and nobody tracks -/
theorem Hd.adopt (h : Hd K L F H S I) (e : H p = some o) (hi : I p = none) (hs : S p = none) (hf : F p = none) : Hd K L F H S (upd I p o) := by
  refine ⟨fun b v z => ?_, fun b od z => ?_, fun a c z => ?_, fun b v z => ?_⟩
  · by_cases hb : b = p
    · subst hb; rw [upd_same] at z; cases z; rw [h.lkN hi]; exact e
    · rw [upd_ne hb] at z; exact h.sub b v z
  · obtain ⟨k, z⟩ := h.lck b od z
    exact ⟨k, by rw [upd_ne (ne_of_none z hi)]; exact z⟩
  · obtain ⟨h1, h2, o', h3, h4⟩ := h.cel a c z
    have hn : a ≠ p := fun y => by subst y; rw [hs] at z; cases z
    exact ⟨by rw [upd_ne hn]; exact h1, h2, o', h3, h4.mono (upd_sub hi)⟩
  · have hn : b ≠ p := fun y => by subst y; rw [hf] at z; cases z
    obtain ⟨h1, h2⟩ := h.fra b v z
    exact ⟨h1, by rw [upd_ne hn]; exact h2⟩
def setL (L : Lk) (d : Addr) (v : Option Obj) : Lk := fun b => if b = d then v else L b
/-- a dict of the trees is locked -/
theorem Hd.lock {kvs : List (Key × V)} {od : Obj} (h : Hd K L F H S I) (e : I d = some (.dK kvs)) : Hd K (setL L d (some od)) F (upd H d (.frz od (.dK kvs))) S I := by
  refine ⟨fun b u z => ?_, fun b od' z => ?_, fun a c z => ?_, fun b u z => ?_⟩
  · by_cases hb : b = d
    · subst hb; rw [e] at z; cases z; rw [upd_same]; unfold setL; rw [if_pos rfl]; rfl
    · rw [upd_ne hb]; unfold setL; rw [if_neg hb]; exact h.sub b u z
  · unfold setL at z
    split at z
    · rename_i hb; subst hb; exact ⟨kvs, e⟩
    · exact h.lck b od' z
  · obtain ⟨h1, h2, o', h3, h4⟩ := h.cel a c z
    have hn : a ≠ d := fun y => by subst y; rw [e] at h1; cases h1
    exact ⟨h1, h2, o', by rw [upd_ne hn]; exact h3, h4⟩
  · obtain ⟨h1, h2⟩ := h.fra b u z
    have hn : b ≠ d := fun y => by subst y; rw [e] at h2; cases h2
    exact ⟨by rw [upd_ne hn]; exact h1, h2⟩
end
/-! ### what a tree shows, cells looked at -/
def vw (S : Sto) : Tr → Tr
  | .ref a => (S a).getD (.ref a)
  | x => x
theorem vw_ref {S : Sto} {a : Addr} {c : Tr} (h : S a = some c) : vw S (.ref a) = c := by show (S a).getD _ = c; rw [h]; rfl
section
variable {K : PySem.W.Frag} {L : Lk} {F H : Hp} {S : Sto} {I : Hp} {x : Tr} {v : V}
theorem vw_cases (S : Sto) (x : Tr) : (vw S x = x ∧ ∀ a, x = .ref a → S a = none) ∨ ∃ a c, x = .ref a ∧ S a = some c ∧ vw S x = c := by
  cases x with
  | ref a =>
    cases e : S a with
    | none => exact .inl ⟨by show (S a).getD _ = _; rw [e]; rfl, fun b z => by cases z; exact e⟩
    | some c => exact .inr ⟨a, c, rfl, e, vw_ref e⟩
  | _ => exact .inl ⟨rfl, fun a z => nomatch z⟩
theorem vw_lst {xs : List Tr} (h : Hd K L F H S I) (r : Rep K I x v) (e : vw S x = .lst xs) : ∃ a vs, v = .ref a ∧ H a = some (.lst vs) ∧ RepL K I xs vs := by
  rcases vw_cases S x with ⟨e1, n⟩ | ⟨a, c, rfl, ea, e1⟩
  · rw [e1] at e; subst e
    obtain ⟨a, vs, rfl, h1, h2⟩ := r
    have q := h.sub a _ h1
    have hl : L a = none := by
      cases z : L a with
      | none => rfl
      | some od => obtain ⟨k, z⟩ := h.lck a od z; rw [h1] at z; cases z
    rw [hl] at q
    exact ⟨a, vs, rfl, q, h2⟩
  · rw [e1] at e; subst e
    obtain ⟨_, _, o, h1, vs, rfl, h2⟩ := h.cel a _ ea
    cases r
    exact ⟨a, vs, rfl, h1, h2⟩
theorem Hd.sqT (h : Hd K L F H S I) {a : Addr} {vs : List V} (q : SqT K I a vs) : SqT K H a vs := by
  rcases q with (q | ⟨o, q⟩) | q
  · have e := h.sub a _ q
    cases z : L a with
    | none => rw [z] at e; exact .inl (.inl e)
    | some od => rw [z] at e; exact .inl (.inr ⟨od, e⟩)
  · have e := h.sub a _ q
    cases z : L a with
    | none => rw [z] at e; exact .inl (.inr ⟨o, e⟩)
    | some od => obtain ⟨k, z⟩ := h.lck a od z; rw [q] at z; cases z
  · exact .inr q
theorem Hd.sqL (h : Hd K L F H S I) {a : Addr} {vs : List V} (q : SqL K I a vs) : SqL K H a vs := by
  rcases q with (q | ⟨o, q⟩) | q
  · have e := h.sub a _ q
    cases z : L a with
    | none => rw [z] at e; exact .inl (.inl e)
    | some od => rw [z] at e; exact .inl (.inr ⟨od, e⟩)
  · have e := h.sub a _ q
    cases z : L a with
    | none => rw [z] at e; exact .inl (.inr ⟨o, e⟩)
    | some od => obtain ⟨k, z⟩ := h.lck a od z; rw [q] at z; cases z
  · exact .inr q
theorem vw_tup {xs : List Tr} (h : Hd K L F H S I) (r : Rep K I x v) (e : vw S x = .tup xs) : ∃ a vs, v = .ref a ∧ SqT K H a vs ∧ RepL K I xs vs := by
  rcases vw_cases S x with ⟨e1, n⟩ | ⟨a, c, rfl, ea, e1⟩
  · rw [e1] at e; subst e
    obtain ⟨a, vs, rfl, h1, h2⟩ := r
    exact ⟨a, vs, rfl, h.sqT h1, h2⟩
  · rw [e1] at e; subst e
    obtain ⟨_, _, o, h1, h2⟩ := h.cel a _ ea
    exact h2.elim
theorem vw_scr {ns : List Int} (h : Hd K L F H S I) (r : Rep K I x v) (e : vw S x = .scr ns) : ∃ a, v = .ref a ∧ SqL K H a (ns.map V.int) := by
  rcases vw_cases S x with ⟨e1, n⟩ | ⟨a, c, rfl, ea, e1⟩
  · rw [e1] at e; subst e
    obtain ⟨a, rfl, h1⟩ := r
    exact ⟨a, rfl, h.sqL h1⟩
  · rw [e1] at e; subst e
    obtain ⟨_, _, o, h1, h2⟩ := h.cel a _ ea
    exact h2.elim
theorem vw_dic {ks : List Key} {xs : List Tr} (h : Hd K L F H S I) (r : Rep K I x v) (e : vw S x = .dic ks xs) : ∃ a vs, v = .ref a ∧ Rd H a (.dK (ks.zip vs)) ∧ ks.length = xs.length ∧ RepL K I xs vs := by
  rcases vw_cases S x with ⟨e1, n⟩ | ⟨a, c, rfl, ea, e1⟩
  · rw [e1] at e; subst e
    obtain ⟨a, vs, rfl, h1, h2, h3⟩ := r
    refine ⟨a, vs, rfl, ?_, h2, h3⟩
    have q := h.sub a _ h1
    cases z : L a with
    | none => rw [z] at q; exact .inl q
    | some od => rw [z] at q; exact .inr ⟨od, q⟩
  · rw [e1] at e; subst e
    obtain ⟨_, _, o, h1, vs, rfl, h2, h3⟩ := h.cel a _ ea
    cases r
    exact ⟨a, vs, rfl, .inl h1, h2, h3⟩
theorem vw_ins {C : Addr} {fs : List Str} {xs : List Tr} (h : Hd K L F H S I) (r : Rep K I x v) (e : vw S x = .ins C fs xs) : ∃ a dx vs, v = .ref a ∧ H a = some (.ins C dx (fs.zip vs)) ∧ fs.length = xs.length ∧ RepL K I xs vs := by
  rcases vw_cases S x with ⟨e1, n⟩ | ⟨a, c, rfl, ea, e1⟩
  · rw [e1] at e; subst e
    obtain ⟨a, dx, vs, rfl, h1, h2, h3⟩ := r
    refine ⟨a, dx, vs, rfl, ?_, h2, h3⟩
    have q := h.sub a _ h1
    cases z : L a with
    | none => rw [z] at q; exact q
    | some od => obtain ⟨k, z⟩ := h.lck a od z; rw [h1] at z; cases z
  · rw [e1] at e; subst e
    obtain ⟨_, _, o, h1, dx, vs, rfl, h2, h3⟩ := h.cel a _ ea
    cases r
    exact ⟨a, dx, vs, rfl, h1, h2, h3⟩
theorem Rep.int {n : Int} (r : Rep K I (.int n) v) : v = .int n := r
theorem Rep.flat (r : Rep K I x v) (e : vw S x = .non ∨ (∃ b, vw S x = .bl b) ∨ (∃ n, vw S x = .int n) ∨ ∃ z, vw S x = .str z) (h : Hd K L F H S I) : vw S x = x := by
  rcases vw_cases S x with ⟨e1, n⟩ | ⟨a, c, rfl, ea, e1⟩
  · exact e1
  · obtain ⟨_, _, o, h1, h2⟩ := h.cel a _ ea
    rw [e1] at e
    rcases e with rfl | ⟨b, rfl⟩ | ⟨b, rfl⟩ | ⟨b, rfl⟩ <;> exact h2.elim
end
end KQ
namespace KQ
open PySem PySem.Spec PyProof.Rows L2 TL KB
/-! ### readings over trees -/
abbrev QV := Tr → Sto → Prop
abbrev QX := Value → List Str → List Tr → Sto → Prop
abbrev QL := List Tr → Sto → Prop
abbrev QB := Bool → Sto → Prop
abbrev QS := Rho → Sto → Prop
abbrev XS := Value → List Str → List Tr → Rho → Sto → Prop
abbrev UE := Rho → Sto → QV → QX → Prop
abbrev UA := Rho → Sto → QL → QX → Prop
abbrev UT := Rho → Sto → QB → QX → Prop
structure UEnds where
  nx : QS
  rt : QV
  bk : QS
  ct : QS
abbrev US := UEnds → XS → Rho → Sto → Prop
/-- what is walked: the items, and what must hold of the cells at each turn -/
structure Walk where
  xs : List Tr
  ok : Sto → Prop
abbrev UI := Rho → Sto → (Walk → Sto → Prop) → QX → Prop
def Slots (K : PySem.W.Frag) (I : Hp) (σ : L2.St) (ρ : Rho) : Prop := σ.length = ρ.length ∧ ∀ (i : Nat) (x : Tr), ρ[i]? = some (some x) → ∃ v, σ[i]? = some (some v) ∧ Rep K I x v
section
variable {K : PySem.W.Frag} {I I' : Hp} {σ : L2.St} {ρ : Rho}
theorem Slots.mono (h : Slots K I σ ρ) (s : Same I I') : Slots K I' σ ρ := ⟨h.1, fun i x e => by
  obtain ⟨v, e, r⟩ := h.2 i x e
  exact ⟨v, e, r.mono s⟩⟩
theorem Slots.set {i : Nat} {x : Tr} {v : V} (h : Slots K I σ ρ) (r : Rep K I x v) : Slots K I (σ.set i (some v)) (ρ.set i (some x)) := by
  refine ⟨by simp [h.1], fun j y e => ?_⟩
  by_cases hj : i = j
  · subst hj
    have hl : i < ρ.length := by
      by_cases z : i < ρ.length
      · exact z
      · rw [List.getElem?_eq_none (by simpa using z)] at e; cases e
    rw [List.getElem?_set_self hl] at e
    cases e
    exact ⟨v, by rw [List.getElem?_set_self (by rw [h.1]; exact hl)], r⟩
  · rw [List.getElem?_set_ne hj] at e ⊢
    exact h.2 j y e
theorem Slots.none {i : Nat} {o : Option V} (h : Slots K I σ ρ) : Slots K I (σ.set i o) (ρ.set i none) := by
  refine ⟨by simp [h.1], fun j y e => ?_⟩
  by_cases hj : i = j
  · subst hj
    by_cases z : i < ρ.length
    · rw [List.getElem?_set_self z] at e; cases e
    · rw [List.getElem?_eq_none (by simpa using z)] at e; cases e
  · rw [List.getElem?_set_ne hj] at e ⊢
    exact h.2 j y e
def wipeR (ρ : Rho) : List Nat → Rho
  | [] => ρ
  | i :: r => (wipeR ρ r).set i none
theorem Slots.wipe {vs : List Nat} (h : Slots K I σ ρ) : Slots K I (L2.wipe σ vs) (wipeR ρ vs) := by
  induction vs with
  | nil => exact h
  | cons i r ih => exact ih.none
end
section
variable (K : PySem.W.Frag) (L : Lk) (F : Hp) (I : Hp)
def dnV (R : VK) : QV := fun y S' => ∀ v H' I', Hd K L F H' S' I' → Same I I' → Rep K I' y v → R v H'
def dnL (R : List V → Hp → Prop) : QL := fun ys S' => ∀ vs H' I', Hd K L F H' S' I' → Same I I' → RepL K I' ys vs → R vs H'
def dnB (R : Bool → Hp → Prop) : QB := fun b S' => ∀ H' I', Hd K L F H' S' I' → Same I I' → R b H'
/-- an exception's own dict, new -/
def Xd (K : PySem.W.Frag) (F : Hp) (H' : Hp) (S' : Sto) (I' : Hp) (d : Addr) (fs : List Str) (xs : List Tr) : Prop := ∃ vs, H' d = some (.xd (fs.zip vs)) ∧ fs.length = xs.length ∧ RepL K I' xs vs ∧ I' d = none ∧ S' d = none ∧ F d = none
def dnX (W : WX) (σ : L2.St) : QX := fun c fs xs S' => ∀ d H' I', Hd K L F H' S' I' → Same I I' → Xd K F H' S' I' d fs xs → W c (some d) σ H'
def dnS (R : L2.St → Hp → Prop) : QS := fun ρ S' => ∀ σ' H' I', Hd K L F H' S' I' → Same I I' → Slots K I' σ' ρ → R σ' H'
def dnXS (W : WX) : XS := fun c fs xs ρ S' => ∀ d σ' H' I', Hd K L F H' S' I' → Same I I' → Slots K I' σ' ρ → Xd K F H' S' I' d fs xs → W c (some d) σ' H'
def dnD (D : L2.Ends) : UEnds := ⟨dnS K L F I D.nx, dnV K L F I D.rt, dnS K L F I D.bk, dnS K L F I D.ct⟩
end
section
variable {K : PySem.W.Frag} {L : Lk} {F I I1 : Hp}
theorem dnV_up {R : VK} (s : Same I I1) : ∀ y S, dnV K L F I R y S → dnV K L F I1 R y S := fun y S h v H' I' hd s' r => h v H' I' hd (s.trans s') r
theorem dnX_up {W : WX} {σ : L2.St} (s : Same I I1) : ∀ c fs xs S, dnX K L F I W σ c fs xs S → dnX K L F I1 W σ c fs xs S := fun c fs xs S h d H' I' hd s' r => h d H' I' hd (s.trans s') r
theorem dnS_up {R : L2.St → Hp → Prop} (s : Same I I1) : ∀ y S, dnS K L F I R y S → dnS K L F I1 R y S := fun y S h v H' I' hd s' r => h v H' I' hd (s.trans s') r
theorem dnXS_up {W : WX} (s : Same I I1) : ∀ c fs xs ρ S, dnXS K L F I W c fs xs ρ S → dnXS K L F I1 W c fs xs ρ S := fun c fs xs ρ S h d σ' H' I' hd s' r z => h d σ' H' I' hd (s.trans s') r z
/-- an expression's exception, at the slots as they stand -/
theorem dnXS_at {W : WX} {σ : L2.St} {ρ : Rho} (sl : Slots K I σ ρ) : ∀ c fs xs S, dnXS K L F I W c fs xs ρ S → dnX K L F I W σ c fs xs S := fun c fs xs S h d H' I' hd s' r => h d σ H' I' hd s' (sl.mono s') r
end
def ULe (D D' : UEnds) : Prop := (∀ ρ S, D.nx ρ S → D'.nx ρ S) ∧ (∀ y S, D.rt y S → D'.rt y S) ∧ (∀ ρ S, D.bk ρ S → D'.bk ρ S) ∧ (∀ ρ S, D.ct ρ S → D'.ct ρ S)
theorem dnD_up {K : PySem.W.Frag} {L : Lk} {F I I1 : Hp} {D : L2.Ends} (s : Same I I1) : ULe (dnD K L F I D) (dnD K L F I1 D) := ⟨dnS_up s, dnV_up s, dnS_up s, dnS_up s⟩
theorem ULe.refl (D : UEnds) : ULe D D := ⟨fun _ _ h => h, fun _ _ h => h, fun _ _ h => h, fun _ _ h => h⟩
def XLe (X X' : QX) : Prop := ∀ c fs xs S, X c fs xs S → X' c fs xs S
def XSLe (X X' : XS) : Prop := ∀ c fs xs ρ S, X c fs xs ρ S → X' c fs xs ρ S
def atR (X : XS) (ρ : Rho) : QX := fun c fs xs S => X c fs xs ρ S
def MonoE (t : UE) : Prop := ∀ ρ S Q Q' X X', (∀ y S, Q y S → Q' y S) → XLe X X' → t ρ S Q X → t ρ S Q' X'
def MonoA (t : UA) : Prop := ∀ ρ S Q Q' X X', (∀ y S, Q y S → Q' y S) → XLe X X' → t ρ S Q X → t ρ S Q' X'
def MonoT (t : UT) : Prop := ∀ ρ S Q Q' X X', (∀ y S, Q y S → Q' y S) → XLe X X' → t ρ S Q X → t ρ S Q' X'
def MonoS (t : US) : Prop := ∀ D D' X X' ρ S, ULe D D' → XSLe X X' → t D X ρ S → t D' X' ρ S
def MonoI (t : UI) : Prop := ∀ ρ S (Q Q' : Walk → Sto → Prop) X X', (∀ y S, Q y S → Q' y S) → XLe X X' → t ρ S Q X → t ρ S Q' X'
def lE (K : PySem.W.Frag) (W : WX) (t : UE) : TE := fun σ H R => ∃ L F S I ρ, Hd K L F H S I ∧ Slots K I σ ρ ∧ t ρ S (dnV K L F I R) (dnX K L F I W σ)
def lA (K : PySem.W.Frag) (W : WX) (t : UA) : TA := fun σ H R => ∃ L F S I ρ, Hd K L F H S I ∧ Slots K I σ ρ ∧ t ρ S (dnL K L F I R) (dnX K L F I W σ)
def lT (K : PySem.W.Frag) (W : WX) (t : UT) : TT := fun σ H R => ∃ L F S I ρ, Hd K L F H S I ∧ Slots K I σ ρ ∧ t ρ S (dnB K L F I R) (dnX K L F I W σ)
def lS (K : PySem.W.Frag) (W : WX) (t : US) : TS := fun D σ H => ∃ L F S I ρ, Hd K L F H S I ∧ Slots K I σ ρ ∧ t (dnD K L F I D) (dnXS K L F I W) ρ S
/-- an iterator yields the items of a walk -/
structure ItRep (K : PySem.W.Frag) (L : Lk) (I : Hp) (J : It) (wk : Walk) : Prop where
  go : ∀ F i H S I', Hd K L F H S I' → Same I I' → wk.ok S → i < wk.xs.length → J.go i H
  stop : ∀ F i H S I', Hd K L F H S I' → Same I I' → wk.ok S → i = wk.xs.length → J.stop i H
  yld : ∀ F i H S I' v H' x, Hd K L F H S I' → Same I I' → wk.ok S → wk.xs[i]? = some x → J.yld i H v H' → ∃ I'', Hd K L F H' S I'' ∧ Same I' I'' ∧ Rep K I'' x v
def lI (K : PySem.W.Frag) (W : WX) (t : UI) : TI := fun σ H R => ∃ L F S I ρ, Hd K L F H S I ∧ Slots K I σ ρ ∧ t ρ S (fun wk S' => ∀ J H' I', Hd K L F H' S' I' → Same I I' → ItRep K L I' J wk → R J H') (dnX K L F I W σ)
structure TPE (X : Cx) (W : WX) (e : Expr) (t : UE) : Prop where
  pe : PE X e (lE X.K W t)
  mono : MonoE t
structure TPA (X : Cx) (W : WX) (es : List Expr) (t : UA) : Prop where
  pe : PA X es (lA X.K W t)
  mono : MonoA t
structure TPT (X : Cx) (W : WX) (e : Expr) (t : UT) : Prop where
  pe : PT X e (lT X.K W t)
  mono : MonoT t
structure TPW (X : Cx) (W : WX) (e : Expr) (t : UT) : Prop where
  pe : PW X e (lT X.K W t)
  mono : MonoT t
structure TPS (X : Cx) (W : WX) (s : Stmt) (t : US) : Prop where
  pe : PS X s (lS X.K W t)
  mono : MonoS t
structure TPSs (X : Cx) (W : WX) (s : List Stmt) (t : US) : Prop where
  pe : PSs X s (lS X.K W t)
  mono : MonoS t
structure TPI (X : Cx) (W : WX) (tg e : Expr) (t : UI) : Prop where
  pe : PI X tg e (lI X.K W t)
  mono : MonoI t
section
variable {X : Cx}
theorem wkE {e : Expr} {t t' : TE} (h : PE X e t) (w : ∀ σ H Q, t' σ H Q → t σ H Q) : PE X e t' := ⟨fun pins s σ H Q I q => h.run pins s σ H Q I (w _ _ _ q)⟩
theorem wkA {e : List Expr} {t t' : TA} (h : PA X e t) (w : ∀ σ H Q, t' σ H Q → t σ H Q) : PA X e t' := ⟨fun pos pins s σ H Q I q => h.run pos pins s σ H Q I (w _ _ _ q)⟩
theorem wkT {e : Expr} {t t' : TT} (h : PT X e t) (w : ∀ σ H Q, t' σ H Q → t σ H Q) : PT X e t' := ⟨fun pins s σ H Q I q => h.run pins s σ H Q I (w _ _ _ q)⟩
theorem wkW {e : Expr} {t t' : TT} (h : PW X e t) (w : ∀ σ H Q, t' σ H Q → t σ H Q) : PW X e t' := ⟨fun wh pins s σ H Q I q => h.run wh pins s σ H Q I (w _ _ _ q)⟩
theorem wkS {e : Stmt} {t t' : TS} (h : PS X e t) (w : ∀ D σ H, t' D σ H → t D σ H) : PS X e t' := ⟨fun pins s σ H D I q => h.run pins s σ H D I (w _ _ _ q)⟩
theorem wkSs {e : List Stmt} {t t' : TS} (h : PSs X e t) (w : ∀ D σ H, t' D σ H → t D σ H) : PSs X e t' := ⟨fun pins s σ H D I q => h.run pins s σ H D I (w _ _ _ q)⟩
theorem wkI {tg e : Expr} {t t' : TI} (h : PI X tg e t) (w : ∀ σ H R, t' σ H R → t σ H R) : PI X tg e t' := ⟨fun pins s σ H R I q => h.run pins s σ H R I (w _ _ _ q)⟩
end
section
variable {X : Cx} {W : WX} {a b e : Expr} {es : List Expr} {ta tb te : UE} {pos : Pos}
/-- to go on behind an expression -/
theorem lE_then {K : PySem.W.Frag} {L : Lk} {F H I : Hp} {S : Sto} {ρ : Rho} {σ : L2.St} {R : VK} {Q : QV} {X0 : QX} (m : MonoE ta) (hd : Hd K L F H S I) (sl : Slots K I σ ρ) (h : ta ρ S Q X0) (hx : XLe X0 (dnX K L F I W σ))
    (k : ∀ y S' v H' I', Q y S' → Hd K L F H' S' I' → Same I I' → Slots K I' σ ρ → Rep K I' y v → R v H') : lE K W ta σ H R :=
  ⟨L, F, S, I, ρ, hd, sl, m _ _ _ _ _ _ (fun y S' q v H' I' h1 s r => k y S' v H' I' q h1 s (sl.mono s) r) hx h⟩
theorem lA_then {K : PySem.W.Frag} {L : Lk} {F H I : Hp} {S : Sto} {ρ : Rho} {σ : L2.St} {R : List V → Hp → Prop} {Q : QL} {X0 : QX} {tr : UA} (m : MonoA tr) (hd : Hd K L F H S I) (sl : Slots K I σ ρ) (h : tr ρ S Q X0) (hx : XLe X0 (dnX K L F I W σ))
    (k : ∀ y S' v H' I', Q y S' → Hd K L F H' S' I' → Same I I' → Slots K I' σ ρ → RepL K I' y v → R v H') : lA K W tr σ H R :=
  ⟨L, F, S, I, ρ, hd, sl, m _ _ _ _ _ _ (fun y S' q v H' I' h1 s r => k y S' v H' I' q h1 s (sl.mono s) r) hx h⟩
theorem lT_then {K : PySem.W.Frag} {L : Lk} {F H I : Hp} {S : Sto} {ρ : Rho} {σ : L2.St} {R : Bool → Hp → Prop} {Q : QB} {X0 : QX} {tt : UT} (m : MonoT tt) (hd : Hd K L F H S I) (sl : Slots K I σ ρ) (h : tt ρ S Q X0) (hx : XLe X0 (dnX K L F I W σ))
    (k : ∀ b S' H' I', Q b S' → Hd K L F H' S' I' → Same I I' → Slots K I' σ ρ → R b H') : lT K W tt σ H R :=
  ⟨L, F, S, I, ρ, hd, sl, m _ _ _ _ _ _ (fun y S' q H' I' h1 s => k y S' H' I' q h1 s (sl.mono s)) hx h⟩
theorem lS_then {K : PySem.W.Frag} {L : Lk} {F H I : Hp} {S : Sto} {ρ : Rho} {σ : L2.St} {D : L2.Ends} {D0 : UEnds} {X0 : XS} {us : US} (m : MonoS us) (hd : Hd K L F H S I) (sl : Slots K I σ ρ) (h : us D0 X0 ρ S) (hD : ULe D0 (dnD K L F I D)) (hx : XSLe X0 (dnXS K L F I W)) : lS K W us D σ H :=
  ⟨L, F, S, I, ρ, hd, sl, m _ _ _ _ _ _ hD hx h⟩
/-! ### names, constants -/
def uVar (i : Nat) : UE := fun ρ S Q _ => ∃ x : Tr, ρ[i]? = some (some x) ∧ Q x S
def uC (x : Tr) : UE := fun _ S Q _ => Q x S
theorem mono_var (i : Nat) : MonoE (uVar i) := fun _ _ _ _ _ _ hQ _ ⟨x, e, q⟩ => ⟨x, e, hQ _ _ q⟩
theorem mono_c (x : Tr) : MonoE (uC x) := fun _ _ _ _ _ _ hQ _ q => hQ _ _ q
theorem e_var (i : Nat) {x : Str} (hN : X.N[i]? = some x := by rfl) (hv : Vis X.env.scope x := by first | exact Or.inl rfl | exact Or.inr (Or.inl rfl) | exact Or.inr (Or.inr rfl)) (hd : (x == ("__debug__" : Str)) = false := by decide)
    (hcd : (x == ("__classdict__" : Str)) = false := by decide) : TPE X W (.Name x pos) (uVar i) :=
  ⟨wkE (pv i hN hv hd hcd) fun σ H R ⟨L, F, S, I, ρ, h, sl, y, ey, q⟩ => by
    obtain ⟨v, ev, r⟩ := sl.2 i y ey
    exact ⟨v, ev, q v H I h (Same.refl _) r⟩, mono_var i⟩
theorem e_const {v : V} {y : Tr} (h : PE X e (tC v)) (hy : ∀ I, Rep X.K I y v) : TPE X W e (uC y) :=
  ⟨wkE h fun σ H R ⟨L, F, S, I, ρ, hd, sl, q⟩ => q v H I hd (Same.refl _) (hy I), mono_c y⟩
theorem e_int {n : Int} {k : Nat} : TPE X W (.Constant (.int n) k pos) (uC (.int n)) := e_const pe_int fun _ => rfl
theorem e_bl {b : Bool} {k : Nat} : TPE X W (.Constant (.bool b) k pos) (uC (.bl b)) := e_const pe_bl fun _ => rfl
theorem e_non {k : Nat} : TPE X W (.Constant .none k pos) (uC .non) := e_const pe_non fun _ => rfl
theorem e_str {z : Str} {k : Nat} : TPE X W (.Constant (.str z) k pos) (uC (.str z)) := e_const pe_str fun _ => rfl
/-! ### two in a row -/
def u2 (ta tb : UE) (k : Tr → Tr → Sto → QV → QX → Prop) : UE := fun ρ S Q X => ta ρ S (fun x S1 => tb ρ S1 (fun y S2 => k x y S2 Q X) X) X
/-- an operation by what it gives; the cells stay -/
def uOp (g : Tr → Tr → Tr → Prop) (ta tb : UE) : UE := fun ρ S Q X => ta ρ S (fun x S1 => tb ρ S1 (fun y S2 => ∃ z, g (vw S2 x) (vw S2 y) z ∧ Q z S2) X) X
def uUn (g : Tr → Tr → Prop) (ta : UE) : UE := fun ρ S Q X => ta ρ S (fun x S1 => ∃ z, g (vw S1 x) z ∧ Q z S1) X
theorem mono_op {g : Tr → Tr → Tr → Prop} (ha : MonoE ta) (hb : MonoE tb) : MonoE (uOp g ta tb) := fun ρ S Q Q' X X' hQ hX h =>
  ha _ _ _ _ _ _ (fun x S1 h1 => hb _ _ _ _ _ _ (fun y S2 ⟨z, hg, q⟩ => ⟨z, hg, hQ _ _ q⟩) hX h1) hX h
theorem mono_un {g : Tr → Tr → Prop} (ha : MonoE ta) : MonoE (uUn g ta) := fun ρ S Q Q' X X' hQ hX h =>
  ha _ _ _ _ _ _ (fun x S1 ⟨z, hg, q⟩ => ⟨z, hg, hQ _ _ q⟩) hX h
/-- an operator, over trees -/
def OpT (K : PySem.W.Frag) (r : R2) (g : Tr → Tr → Tr → Prop) : Prop := ∀ {L : Lk} {F H : Hp} {S : Sto} {I : Hp} {x y z : Tr} {v w : V} {R : VK}, Hd K L F H S I → Rep K I x v → Rep K I y w → g (vw S x) (vw S y) z →
  (∀ v' H' I', Hd K L F H' S I' → Same I I' → Rep K I' z v' → R v' H') → r v w H R
def UnT (K : PySem.W.Frag) (r : V → Hp → VK → Prop) (g : Tr → Tr → Prop) : Prop := ∀ {L : Lk} {F H : Hp} {S : Sto} {I : Hp} {x z : Tr} {v : V} {R : VK}, Hd K L F H S I → Rep K I x v → g (vw S x) z →
  (∀ v' H' I', Hd K L F H' S I' → Same I I' → Rep K I' z v' → R v' H') → r v H R
theorem lOp {r : R2} {g : Tr → Tr → Tr → Prop} (s : OpT X.K r g) (ma : MonoE ta) (mb : MonoE tb) : ∀ σ H R, lE X.K W (uOp g ta tb) σ H R → tOp r (lE X.K W ta) (lE X.K W tb) σ H R := fun σ H R ⟨L, F, S, I, ρ, hd, sl, h⟩ =>
  lE_then ma hd sl h (fun _ _ _ _ h => h) fun x S1 v H1 I1 q1 hd1 s1 sl1 rx => lE_then mb hd1 sl1 q1 (dnX_up s1) fun y S2 w H2 I2 ⟨z, hg, q2⟩ hd2 s2 sl2 ry =>
    s hd2 (rx.mono s2) ry hg fun v' H' I' hd' s' r' => q2 v' H' I' hd' ((s1.trans s2).trans s') r'
theorem e_op {op : Operator} {r : R2} {g : Tr → Tr → Tr → Prop} (ho : OpR X (binaryOp op) r) (s : OpT X.K r g) (ha : TPE X W a ta) (hb : TPE X W b tb) : TPE X W (.BinOp a op b pos) (uOp g ta tb) :=
  ⟨wkE (pe_op ho ha.pe hb.pe) (lOp s ha.mono hb.mono), mono_op ha.mono hb.mono⟩
theorem e_cmp {op : CmpOp} {r : R2} {g : Tr → Tr → Tr → Prop} (ho : OpR X (compareOp op) r) (s : OpT X.K r g) (ha : TPE X W a ta) (hb : TPE X W b tb) (hm : behindInMarks op b = false) : TPE X W (.Compare a [op] [b] pos) (uOp g ta tb) :=
  ⟨wkE (pe_cmpR ho ha.pe hb.pe hm) (lOp s ha.mono hb.mono), mono_op ha.mono hb.mono⟩
theorem e_un {op : UnaryOp} {r : V → Hp → VK → Prop} {g : Tr → Tr → Prop} (ho : UnR X (unaryOp op) r) (s : UnT X.K r g) (ha : TPE X W a ta) : TPE X W (.UnaryOp op a pos) (uUn g ta) :=
  ⟨wkE (pe_un ho ha.pe) fun σ H R ⟨L, F, S, I, ρ, hd, sl, h⟩ => lE_then ha.mono hd sl h (fun _ _ _ _ h => h) fun x S1 v H1 I1 ⟨z, hg, q⟩ hd1 s1 sl1 rx =>
    s hd1 rx hg fun v' H' I' hd' s' r' => q v' H' I' hd' (s1.trans s') r', mono_un ha.mono⟩
theorem e_ix {r : R2} {g : Tr → Tr → Tr → Prop} (ho : IxR X r) (s : OpT X.K r g) (ha : TPE X W a ta) (hb : TPE X W b tb) (hs : PlainIx b) : TPE X W (.Subscript a b pos) (uOp g ta tb) :=
  ⟨wkE (pe_ix ho ha.pe hb.pe hs) (lOp s ha.mono hb.mono), mono_op ha.mono hb.mono⟩
/-! ### tests -/
def uB (te : UE) : UT := fun ρ S Q X => te ρ S (fun x S1 => ∃ k, x = .bl k ∧ Q k S1) X
theorem mono_b (h : MonoE te) : MonoT (uB te) := fun ρ S Q Q' X X' hQ hX q => h _ _ _ _ _ _ (fun x S1 ⟨k, e, q⟩ => ⟨k, e, hQ _ _ q⟩) hX q
theorem lB (m : MonoE te) : ∀ σ H R, lT X.K W (uB te) σ H R → lE X.K W te σ H (fun x H1 => ∃ k, x = .bl k ∧ R k H1) := fun σ H R ⟨L, F, S, I, ρ, hd, sl, h⟩ =>
  lE_then m hd sl h (fun _ _ _ _ h => h) fun x S1 v H1 I1 ⟨k, e, q⟩ hd1 s1 sl1 r => by subst e; exact ⟨k, r, q H1 I1 hd1 s1⟩
theorem t_val (h : TPE X W e te) (he : ∀ whole, isTrue e X.env whole = (do let v ← whole; standAt e.pos; holding [v] (truthy v)) := by intro _; rfl) : TPT X W e (uB te) :=
  ⟨wkT (pt_val h.pe he) (lB h.mono), mono_b h.mono⟩
theorem t_cmp {op : CmpOp} {r : R2} {g : Tr → Tr → Tr → Prop} (ho : OpR X (compareOp op) r) (s : OpT X.K r g) (ha : TPE X W a ta) (hb : TPE X W b tb) (hm : behindInMarks op b = false) : TPT X W (.Compare a [op] [b] pos) (uB (uOp g ta tb)) :=
  ⟨wkT (pt_cmpR ho ha.pe hb.pe hm) fun σ H R ⟨L, F, S, I, ρ, hd, sl, h⟩ => lOp s ha.mono hb.mono σ H _ (by
    obtain ⟨L', F', S', I', ρ', h1, h2, h3⟩ := lB (X := X) (W := W) (mono_op ha.mono hb.mono) σ H R ⟨L, F, S, I, ρ, hd, sl, h⟩
    exact ⟨L', F', S', I', ρ', h1, h2, h3⟩), mono_b (mono_op ha.mono hb.mono)⟩
def uAnd (t u : UT) : UT := fun ρ S Q X => t ρ S (fun c S1 => if c = true then u ρ S1 Q X else Q false S1) X
def uOr (t u : UT) : UT := fun ρ S Q X => t ρ S (fun c S1 => if c = true then Q true S1 else u ρ S1 Q X) X
def uNot (t : UT) : UT := fun ρ S Q X => t ρ S (fun c S1 => Q (!c) S1) X
section
variable {t u : UT} {rest : List Expr}
theorem mono_and (ht : MonoT t) (hu : MonoT u) : MonoT (uAnd t u) := fun ρ S Q Q' X X' hQ hX h => ht _ _ _ _ _ _ (fun c S1 h1 => by
  cases c with
  | true => rw [if_pos rfl] at h1 ⊢; exact hu _ _ _ _ _ _ hQ hX h1
  | false => rw [if_neg Bool.false_ne_true] at h1 ⊢; exact hQ _ _ h1) hX h
theorem mono_or (ht : MonoT t) (hu : MonoT u) : MonoT (uOr t u) := fun ρ S Q Q' X X' hQ hX h => ht _ _ _ _ _ _ (fun c S1 h1 => by
  cases c with
  | true => rw [if_pos rfl] at h1 ⊢; exact hQ _ _ h1
  | false => rw [if_neg Bool.false_ne_true] at h1 ⊢; exact hu _ _ _ _ _ _ hQ hX h1) hX h
theorem mono_not (ht : MonoT t) : MonoT (uNot t) := fun ρ S Q Q' X X' hQ hX h => ht _ _ _ _ _ _ (fun c S1 h1 => hQ _ _ h1) hX h
theorem w_and1 (ha : TPT X W a t) : TPW X W (.BoolOp .And [a] pos) t := ⟨pw_and1 ha.pe, ha.mono⟩
theorem w_or1 (ha : TPT X W a t) : TPW X W (.BoolOp .Or [a] pos) t := ⟨pw_or1 ha.pe, ha.mono⟩
theorem w_and (ha : TPT X W a t) (hb : TPW X W (.BoolOp .And (b :: rest) pos) u) : TPW X W (.BoolOp .And (a :: b :: rest) pos) (uAnd t u) :=
  ⟨wkW (pw_and ha.pe hb.pe) fun σ H R ⟨L, F, S, I, ρ, hd, sl, h⟩ => lT_then ha.mono hd sl h (fun _ _ _ _ h => h) fun c S1 H1 I1 q hd1 s1 sl1 => by
    cases c with
    | true => rw [if_pos rfl] at q ⊢; exact lT_then hb.mono hd1 sl1 q (dnX_up s1) fun c2 S2 H2 I2 q2 hd2 s2 sl2 => q2 H2 I2 hd2 (s1.trans s2)
    | false => rw [if_neg Bool.false_ne_true] at q ⊢; exact q H1 I1 hd1 s1, mono_and ha.mono hb.mono⟩
theorem w_or (ha : TPT X W a t) (hb : TPW X W (.BoolOp .Or (b :: rest) pos) u) : TPW X W (.BoolOp .Or (a :: b :: rest) pos) (uOr t u) :=
  ⟨wkW (pw_or ha.pe hb.pe) fun σ H R ⟨L, F, S, I, ρ, hd, sl, h⟩ => lT_then ha.mono hd sl h (fun _ _ _ _ h => h) fun c S1 H1 I1 q hd1 s1 sl1 => by
    cases c with
    | true => rw [if_pos rfl] at q ⊢; exact q H1 I1 hd1 s1
    | false => rw [if_neg Bool.false_ne_true] at q ⊢; exact lT_then hb.mono hd1 sl1 q (dnX_up s1) fun c2 S2 H2 I2 q2 hd2 s2 sl2 => q2 H2 I2 hd2 (s1.trans s2), mono_or ha.mono hb.mono⟩
theorem TPW.pt (h : TPW X W e t) : TPT X W e t := ⟨h.pe.pt, h.mono⟩
theorem t_not (ha : TPT X W a t) : TPT X W (.UnaryOp .Not a pos) (uNot t) :=
  ⟨wkT (pt_not ha.pe) fun σ H R ⟨L, F, S, I, ρ, hd, sl, h⟩ => lT_then ha.mono hd sl h (fun _ _ _ _ h => h) fun c S1 H1 I1 q hd1 s1 sl1 => q H1 I1 hd1 s1, mono_not ha.mono⟩
/-- and, or, not as values of truths -/
def uAndV (ta tb : UE) : UE := fun ρ S Q X => ta ρ S (fun x S1 => ∃ c, x = .bl c ∧ if c = true then tb ρ S1 Q X else Q (.bl false) S1) X
def uOrV (ta tb : UE) : UE := fun ρ S Q X => ta ρ S (fun x S1 => ∃ c, x = .bl c ∧ if c = true then Q (.bl true) S1 else tb ρ S1 Q X) X
def uNotV (ta : UE) : UE := fun ρ S Q X => ta ρ S (fun x S1 => ∃ c, x = .bl c ∧ Q (.bl (!c)) S1) X
theorem e_one {op} (h : TPE X W a ta) : TPE X W (.BoolOp op [a] pos) ta := ⟨pe_one h.pe, h.mono⟩
theorem e_and (ha : TPE X W a ta) (hb : TPE X W (.BoolOp .And (b :: rest) pos) tb) : TPE X W (.BoolOp .And (a :: b :: rest) pos) (uAndV ta tb) :=
  ⟨wkE (pe_and ha.pe hb.pe) fun σ H R ⟨L, F, S, I, ρ, hd, sl, h⟩ => lE_then ha.mono hd sl h (fun _ _ _ _ h => h) fun x S1 v H1 I1 ⟨c, e, q⟩ hd1 s1 sl1 r => by
    subst e
    refine ⟨c, r, ?_⟩
    cases c with
    | true => rw [if_pos rfl] at q ⊢; exact lE_then hb.mono hd1 sl1 q (dnX_up s1) fun y S2 w H2 I2 q2 hd2 s2 sl2 r2 => q2 w H2 I2 hd2 (s1.trans s2) r2
    | false => rw [if_neg Bool.false_ne_true] at q ⊢; exact q _ H1 I1 hd1 s1 rfl, fun ρ S Q Q' X X' hQ hX h => ha.mono _ _ _ _ _ _ (fun x S1 ⟨c, e, q⟩ => ⟨c, e, by
      cases c with
      | true => rw [if_pos rfl] at q ⊢; exact hb.mono _ _ _ _ _ _ hQ hX q
      | false => rw [if_neg Bool.false_ne_true] at q ⊢; exact hQ _ _ q⟩) hX h⟩
theorem e_or (ha : TPE X W a ta) (hb : TPE X W (.BoolOp .Or (b :: rest) pos) tb) : TPE X W (.BoolOp .Or (a :: b :: rest) pos) (uOrV ta tb) :=
  ⟨wkE (pe_or ha.pe hb.pe) fun σ H R ⟨L, F, S, I, ρ, hd, sl, h⟩ => lE_then ha.mono hd sl h (fun _ _ _ _ h => h) fun x S1 v H1 I1 ⟨c, e, q⟩ hd1 s1 sl1 r => by
    subst e
    refine ⟨c, r, ?_⟩
    cases c with
    | true => rw [if_pos rfl] at q ⊢; exact q _ H1 I1 hd1 s1 rfl
    | false => rw [if_neg Bool.false_ne_true] at q ⊢; exact lE_then hb.mono hd1 sl1 q (dnX_up s1) fun y S2 w H2 I2 q2 hd2 s2 sl2 r2 => q2 w H2 I2 hd2 (s1.trans s2) r2, fun ρ S Q Q' X X' hQ hX h => ha.mono _ _ _ _ _ _ (fun x S1 ⟨c, e, q⟩ => ⟨c, e, by
      cases c with
      | true => rw [if_pos rfl] at q ⊢; exact hQ _ _ q
      | false => rw [if_neg Bool.false_ne_true] at q ⊢; exact hb.mono _ _ _ _ _ _ hQ hX q⟩) hX h⟩
theorem e_not (ha : TPE X W a ta) : TPE X W (.UnaryOp .Not a pos) (uNotV ta) :=
  ⟨wkE (pe_not ha.pe) fun σ H R ⟨L, F, S, I, ρ, hd, sl, h⟩ => lE_then ha.mono hd sl h (fun _ _ _ _ h => h) fun x S1 v H1 I1 ⟨c, e, q⟩ hd1 s1 sl1 r => by
    subst e
    exact ⟨c, r, q _ H1 I1 hd1 s1 rfl⟩, fun ρ S Q Q' X X' hQ hX h => ha.mono _ _ _ _ _ _ (fun x S1 ⟨c, e, q⟩ => ⟨c, e, hQ _ _ q⟩) hX h⟩
def uIf (t : UT) (ta tb : UE) : UE := fun ρ S Q X => t ρ S (fun c S1 => if c = true then ta ρ S1 Q X else tb ρ S1 Q X) X
theorem e_ifExp {c : Expr} (hc : TPT X W c t) (ha : TPE X W a ta) (hb : TPE X W b tb) : TPE X W (.IfExp c a b pos) (uIf t ta tb) :=
  ⟨wkE (pe_ifExp hc.pe ha.pe hb.pe) fun σ H R ⟨L, F, S, I, ρ, hd, sl, h⟩ => lT_then hc.mono hd sl h (fun _ _ _ _ h => h) fun c S1 H1 I1 q hd1 s1 sl1 => by
    cases c with
    | true => rw [if_pos rfl] at q ⊢; exact lE_then ha.mono hd1 sl1 q (dnX_up s1) fun y S2 w H2 I2 q2 hd2 s2 sl2 r2 => q2 w H2 I2 hd2 (s1.trans s2) r2
    | false => rw [if_neg Bool.false_ne_true] at q ⊢; exact lE_then hb.mono hd1 sl1 q (dnX_up s1) fun y S2 w H2 I2 q2 hd2 s2 sl2 r2 => q2 w H2 I2 hd2 (s1.trans s2) r2, fun ρ S Q Q' X X' hQ hX h => hc.mono _ _ _ _ _ _ (fun c S1 q => by
      cases c with
      | true => rw [if_pos rfl] at q ⊢; exact ha.mono _ _ _ _ _ _ hQ hX q
      | false => rw [if_neg Bool.false_ne_true] at q ⊢; exact hb.mono _ _ _ _ _ _ hQ hX q) hX h⟩
end
/-! ### arguments, displays, calls of built-ins -/
def uNil : UA := fun _ S Q _ => Q [] S
def uCons (ta : UE) (tr : UA) : UA := fun ρ S Q X => ta ρ S (fun x S1 => tr ρ S1 (fun xs S2 => Q (x :: xs) S2) X) X
theorem a_nil : TPA X W [] uNil := ⟨wkA pa_nil fun σ H R ⟨L, F, S, I, ρ, hd, sl, h⟩ => h [] H I hd (Same.refl _) rfl, fun _ _ _ _ _ _ hQ _ h => hQ _ _ h⟩
theorem a_cons {tr : UA} (ha : TPE X W e te) (hr : TPA X W es tr) (hs : starEach (e :: es) X.env = (false, eval e X.env) :: starEach es X.env := by rfl) : TPA X W (e :: es) (uCons te tr) :=
  ⟨wkA (pa_cons ha.pe hr.pe hs) fun σ H R ⟨L, F, S, I, ρ, hd, sl, h⟩ => lE_then ha.mono hd sl h (fun _ _ _ _ h => h) fun x S1 v H1 I1 q hd1 s1 sl1 rx => lA_then hr.mono hd1 sl1 q (dnX_up s1) fun ys S2 ws H2 I2 q2 hd2 s2 sl2 ry =>
    q2 (v :: ws) H2 I2 hd2 (s1.trans s2) (.cons (rx.mono s2) ry), fun ρ S Q Q' X X' hQ hX h => ha.mono _ _ _ _ _ _ (fun x S1 q => hr.mono _ _ _ _ _ _ (fun xs S2 q => hQ _ _ q) hX q) hX h⟩
/-- a new list, a new tuple of the trees -/
def uTup (t : UA) : UE := fun ρ S Q X => t ρ S (fun xs S1 => xs.length ≤ sizeLine ∧ Q (.tup xs) S1) X
def uLst (t : UA) : UE := fun ρ S Q X => t ρ S (fun xs S1 => xs.length ≤ sizeLine ∧ Q (.lst xs) S1) X
/-- a new list that will change -/
def uLstC (t : UA) : UE := fun ρ S Q X => t ρ S (fun xs S1 => xs.length ≤ sizeLine ∧ ∀ p, S1 p = none → Q (.ref p) (put S1 p (.lst xs))) X
section
variable {tr : UA} {x1 : Nat}
theorem e_tup (h : TPA X W es tr) : TPE X W (.Tuple es x1 pos) (uTup tr) :=
  ⟨wkE (pe_tup h.pe) fun σ H R ⟨L, F, S, I, ρ, hd, sl, q⟩ => lA_then h.mono hd sl q (fun _ _ _ _ h => h) fun xs S1 vs H1 I1 ⟨z, q⟩ hd1 s1 sl1 r =>
    ⟨by rw [r.len]; exact z, fun p np => q _ _ _ (hd1.imm np) (s1.trans (upd_sub (hd1.freeI np))) ⟨p, vs, rfl, .inl (.inl upd_same), r.mono (upd_sub (hd1.freeI np))⟩⟩,
    fun ρ S Q Q' X X' hQ hX h' => h.mono _ _ _ _ _ _ (fun xs S1 ⟨z, q⟩ => ⟨z, hQ _ _ q⟩) hX h'⟩
theorem e_lst (h : TPA X W es tr) : TPE X W (.List es pos) (uLst tr) :=
  ⟨wkE (pe_lst h.pe) fun σ H R ⟨L, F, S, I, ρ, hd, sl, q⟩ => lA_then h.mono hd sl q (fun _ _ _ _ h => h) fun xs S1 vs H1 I1 ⟨z, q⟩ hd1 s1 sl1 r =>
    ⟨by rw [r.len]; exact z, fun p np => q _ _ _ (hd1.imm np) (s1.trans (upd_sub (hd1.freeI np))) ⟨p, vs, rfl, upd_same, r.mono (upd_sub (hd1.freeI np))⟩⟩,
    fun ρ S Q Q' X X' hQ hX h' => h.mono _ _ _ _ _ _ (fun xs S1 ⟨z, q⟩ => ⟨z, hQ _ _ q⟩) hX h'⟩
theorem e_lstC (h : TPA X W es tr) : TPE X W (.List es pos) (uLstC tr) :=
  ⟨wkE (pe_lst h.pe) fun σ H R ⟨L, F, S, I, ρ, hd, sl, q⟩ => lA_then h.mono hd sl q (fun _ _ _ _ h => h) fun xs S1 vs H1 I1 ⟨z, q⟩ hd1 s1 sl1 r =>
    ⟨by rw [r.len]; exact z, fun p np => q p (hd1.freeS np) _ _ _ (hd1.cell np ⟨vs, rfl, r⟩) s1 rfl⟩,
    fun ρ S Q Q' X X' hQ hX h' => h.mono _ _ _ _ _ _ (fun xs S1 ⟨z, q⟩ => ⟨z, fun p np => hQ _ _ (q p np)⟩) hX h'⟩
/-- a built-in by what it gives; the cells stay -/
def uCb (g : List Tr → Tr → Prop) (t : UA) : UE := fun ρ S Q X => t ρ S (fun xs S1 => ∃ z, g (xs.map (vw S1)) z ∧ Q z S1) X
theorem mono_cb {g : List Tr → Tr → Prop} (m : MonoA tr) : MonoE (uCb g tr) := fun ρ S Q Q' X X' hQ hX h => m _ _ _ _ _ _ (fun xs S1 ⟨z, hg, q⟩ => ⟨z, hg, hQ _ _ q⟩) hX h
def CallT (K : PySem.W.Frag) (r : List V → Hp → VK → Prop) (g : List Tr → Tr → Prop) : Prop := ∀ {L : Lk} {F H : Hp} {S : Sto} {I : Hp} {xs : List Tr} {z : Tr} {vs : List V} {R : VK}, Hd K L F H S I → RepL K I xs vs → g (xs.map (vw S)) z →
  (∀ v' H' I', Hd K L F H' S I' → Same I I' → Rep K I' z v' → R v' H') → r vs H R
theorem lCb {r : List V → Hp → VK → Prop} {g : List Tr → Tr → Prop} (s : CallT X.K r g) (m : MonoA tr) : ∀ σ H R, lE X.K W (uCb g tr) σ H R → tCB r (lA X.K W tr) σ H R := fun σ H R ⟨L, F, S, I, ρ, hd, sl, h⟩ =>
  lA_then m hd sl h (fun _ _ _ _ h => h) fun xs S1 vs H1 I1 ⟨z, hg, q⟩ hd1 s1 sl1 r => s hd1 r hg fun v' H' I' hd' s' r' => q v' H' I' hd' (s1.trans s') r'
theorem e_callB {id : String} {x : Str} {p : Pos} {r : List V → Hp → VK → Prop} {g : List Tr → Tr → Prop} (hc : CallR X (.builtin id) r) (s : CallT X.K r g) (hg : Gl X x) (hm : X.mg x = none) (hv : bootBuiltins x = some (.builtin id)) (ha : TPA X W (e :: es) tr) (hn : x ≠ "__name__" := by decide) (hdb : (x == ("__debug__" : Str)) = false := by decide)
    (he : starEach (e :: es) X.env = (false, eval e X.env) :: starEach es X.env := by rfl) (hpl : (backTo pos (starEach es X.env)).any (·.1) = false := by rfl) : TPE X W (.Call (.Name x p) (e :: es) [] pos) (uCb g tr) :=
  ⟨wkE (pe_callB hc hg hm hv ha.pe hn hdb he hpl) (lCb s ha.mono), mono_cb ha.mono⟩
theorem e_callTy {T : String} {x : Str} {p : Pos} {r : List V → Hp → VK → Prop} {g : List Tr → Tr → Prop} (hc : CallR X (.type T) r) (s : CallT X.K r g) (hg : Gl X x) (hm : X.mg x = none) (hv : bootBuiltins x = some (.type T)) (ha : TPA X W (e :: es) tr) (hn : x ≠ "__name__" := by decide) (hdb : (x == ("__debug__" : Str)) = false := by decide)
    (he : starEach (e :: es) X.env = (false, eval e X.env) :: starEach es X.env := by rfl) (hpl : (backTo pos (starEach es X.env)).any (·.1) = false := by rfl) : TPE X W (.Call (.Name x p) (e :: es) [] pos) (uCb g tr) :=
  ⟨wkE (pe_callTy hc hg hm hv ha.pe hn hdb he hpl) (lCb s ha.mono), mono_cb ha.mono⟩
end
end
end KQ
namespace KQ
open PySem PySem.Spec PyProof.Rows L2 TL KB
/-! ### targets of names -/
inductive Pat where
  | nm (i : Nat)
  | tp (ps : List Pat)
mutual
def patR : Pat → Tr → Rho → Option Rho
  | .nm i, x, ρ => some (ρ.set i (some x))
  | .tp ps, x, ρ => match x with
    | .tup xs => patsR ps xs ρ
    | _ => none
def patsR : List Pat → List Tr → Rho → Option Rho
  | [], xs, ρ => match xs with
    | [] => some ρ
    | _ => none
  | p :: ps, xs, ρ => match xs with
    | x :: xs => match patR p x ρ with
      | some ρ' => patsR ps xs ρ'
      | none => none
    | [] => none
end
mutual
def gPat (K : PySem.W.Frag) : Pat → TG
  | .nm i => gName i
  | .tp ps => gTup K ps.length (gPats K ps)
def gPats (K : PySem.W.Frag) : List Pat → TGs
  | [] => gNil
  | p :: ps => gCons (gPat K p) (gPats K ps)
end
mutual
def Pat.slots : Pat → List Nat
  | .nm i => [i]
  | .tp ps => patsSlots ps
def patsSlots : List Pat → List Nat
  | [] => []
  | p :: ps => p.slots ++ patsSlots ps
end
theorem wipe_at (σ : L2.St) (vs : List Nat) (i : Nat) : (wipe σ vs)[i]? = if i ∈ vs ∧ i < σ.length then some none else σ[i]? := by
  induction vs with
  | nil => simp [wipe]
  | cons v r ih =>
    show ((wipe σ r).set v none)[i]? = _
    by_cases h : v = i
    · subst h
      by_cases hl : v < σ.length
      · rw [List.getElem?_set_self (by rw [wipe_length]; exact hl), if_pos ⟨List.mem_cons_self .., hl⟩]
      · rw [if_neg (fun z => hl z.2), List.getElem?_eq_none (by rw [List.length_set, wipe_length]; omega), List.getElem?_eq_none (by omega)]
    · rw [List.getElem?_set_ne h, ih]
      by_cases hr : i ∈ r ∧ i < σ.length
      · rw [if_pos hr, if_pos ⟨List.mem_cons_of_mem _ hr.1, hr.2⟩]
      · rw [if_neg hr, if_neg (fun z => hr ⟨(List.mem_cons.mp z.1).resolve_left (fun e => h e.symm), z.2⟩)]
theorem wipe_set (σ : L2.St) {vs : List Nat} {i : Nat} {o : Option V} (h : i ∈ vs) : wipe (σ.set i o) vs = wipe σ vs := by
  apply List.ext_getElem?
  intro j
  rw [wipe_at, wipe_at, List.length_set]
  by_cases hj : j ∈ vs ∧ j < σ.length
  · rw [if_pos hj, if_pos hj]
  · rw [if_neg hj, if_neg hj]
    by_cases e : i = j
    · subst e
      have hl : ¬ i < σ.length := fun z => hj ⟨h, z⟩
      rw [List.getElem?_eq_none (by rw [List.length_set]; omega), List.getElem?_eq_none (by omega)]
    · rw [List.getElem?_set_ne e]
theorem wipe_wipe (σ : L2.St) (vs : List Nat) : wipe (wipe σ vs) vs = wipe σ vs := by
  apply List.ext_getElem?
  intro j
  rw [wipe_at, wipe_length]
  by_cases hj : j ∈ vs ∧ j < σ.length
  · rw [if_pos hj, wipe_at, if_pos hj]
  · rw [if_neg hj]
section
variable {K : PySem.W.Frag} {L : Lk} {F H I : Hp} {S : Sto}
mutual
theorem gPat_run (hd : Hd K L F H S I) : ∀ (p : Pat) {x : Tr} {v : V} {σ : L2.St} {ρ ρ2 : Rho} {Q : L2.St → Hp → Prop}, Rep K I x v → Slots K I σ ρ → patR p x ρ = some ρ2 →
    (∀ σ2, Slots K I σ2 ρ2 → (∀ vs, (∀ i ∈ p.slots, i ∈ vs) → wipe σ2 vs = wipe σ vs) → Q σ2 H) → gPat K p v σ H Q
  | .nm i, x, v, σ, ρ, ρ2, Q, r, sl, e, k => by
    have e' : some (ρ.set i (some x)) = some ρ2 := by simpa [patR] using e
    cases e'
    unfold gPat
    exact k _ (sl.set r) fun vs h => wipe_set σ (h i (by simp [Pat.slots]))
  | .tp ps, x, v, σ, ρ, ρ2, Q, r, sl, e, k => by
    unfold patR at e
    split at e
    · rename_i xs
      obtain ⟨a, vs, rfl, h1, h2⟩ := r
      unfold gPat
      have hl := gPats_len ps e
      exact ⟨a, vs, rfl, hd.sqT h1, by rw [h2.len, hl], gPats_run hd ps h2 sl e fun σ2 s2 w => k σ2 s2 fun vs h => w vs (by simpa [Pat.slots] using h)⟩
    · cases e
theorem gPats_run (hd : Hd K L F H S I) : ∀ (ps : List Pat) {xs : List Tr} {vs : List V} {σ : L2.St} {ρ ρ2 : Rho} {Q : L2.St → Hp → Prop}, RepL K I xs vs → Slots K I σ ρ → patsR ps xs ρ = some ρ2 →
    (∀ σ2, Slots K I σ2 ρ2 → (∀ vs, (∀ i ∈ patsSlots ps, i ∈ vs) → wipe σ2 vs = wipe σ vs) → Q σ2 H) → gPats K ps vs σ H Q
  | [], xs, vs, σ, ρ, ρ2, Q, r, sl, e, k => by
    unfold patsR at e
    split at e
    · cases e
      cases r
      unfold gPats
      exact ⟨rfl, k σ sl fun _ _ => rfl⟩
    · cases e
  | p :: ps, xs, vs, σ, ρ, ρ2, Q, r, sl, e, k => by
    unfold patsR at e
    split at e
    · rename_i x xs
      obtain ⟨v, ws, rfl, r1, r2⟩ := r
      split at e
      · rename_i ρ' e1
        unfold gPats
        refine ⟨v, ws, rfl, gPat_run hd p r1 sl e1 fun σ1 s1 w1 => gPats_run hd ps r2 s1 e fun σ2 s2 w2 => k σ2 s2 fun vs h => ?_⟩
        rw [w2 vs (fun i hi => h i (by simp [patsSlots, hi])), w1 vs (fun i hi => h i (by simp [patsSlots, hi]))]
      · cases e
    · cases e
theorem gPats_len : ∀ (ps : List Pat) {xs : List Tr} {ρ ρ2 : Rho}, patsR ps xs ρ = some ρ2 → xs.length = ps.length
  | [], xs, ρ, ρ2, e => by
    unfold patsR at e
    split at e
    · rfl
    · cases e
  | p :: ps, xs, ρ, ρ2, e => by
    unfold patsR at e
    split at e
    · rename_i x xs
      split at e
      · rename_i ρ' e1
        rw [List.length_cons, List.length_cons, gPats_len ps e]
      · cases e
    · cases e
end
end
/-! ### statements -/
section
variable {X : Cx} {W : WX} {a b e : Expr} {es : List Expr} {te : UE} {pos : Pos} {st : Stmt} {rest : List Stmt} {t u : US}
def uNext : US := fun D _ ρ S => D.nx ρ S
def uSeq (t u : US) : US := fun D X ρ S => t { D with nx := u D X } X ρ S
theorem ule_seq {u : US} {D D' : UEnds} {X X' : XS} (mu : MonoS u) (hD : ULe D D') (hX : XSLe X X') : ULe { D with nx := u D X } { D' with nx := u D' X' } := ⟨fun ρ S h => mu _ _ _ _ _ _ hD hX h, hD.2.1, hD.2.2.1, hD.2.2.2⟩
theorem mono_seq (mt : MonoS t) (mu : MonoS u) : MonoS (uSeq t u) := fun D D' X X' ρ S hD hX h => mt _ _ _ _ _ _ (ule_seq mu hD hX) hX h
theorem ss_nil : TPSs X W [] uNext := ⟨wkSs pss_nil fun D σ H ⟨L, F, S, I, ρ, hd, sl, h⟩ => h σ H I hd (Same.refl _) sl, fun _ _ _ _ _ _ hD _ h => hD.1 _ _ h⟩
def uBreak : US := fun D _ ρ S => D.bk ρ S
def uCont : US := fun D _ ρ S => D.ct ρ S
theorem lS_seq (mt : MonoS t) (mu : MonoS u) : ∀ D σ H, lS X.K W (uSeq t u) D σ H → lS X.K W t { D with nx := lS X.K W u D } σ H := fun D σ H ⟨L, F, S, I, ρ, hd, sl, h⟩ =>
  ⟨L, F, S, I, ρ, hd, sl, mt { dnD X.K L F I D with nx := u (dnD X.K L F I D) (dnXS X.K L F I W) } _ (dnXS X.K L F I W) _ _ _ ⟨fun ρ' S' q σ' H' I' hd' s' sl' => ⟨L, F, S', I', ρ', hd', sl', mu _ _ _ _ _ _ (dnD_up s') (dnXS_up s') q⟩, fun _ _ q => q, fun _ _ q => q, fun _ _ q => q⟩ (fun _ _ _ _ _ q => q) h⟩
theorem ss_cons (h1 : TPS X W st t) (h2 : TPSs X W rest u) : TPSs X W (st :: rest) (uSeq t u) := ⟨wkSs (pss_cons h1.pe h2.pe) (lS_seq h1.mono h2.mono), mono_seq h1.mono h2.mono⟩
theorem ss_one (h1 : TPS X W st t) : TPSs X W [st] t := ⟨pss_one h1.pe, h1.mono⟩
/-- what stands behind, under a name -/
structure CutT (u p : QS) : Prop where
  go : ∀ ρ S, u ρ S → p ρ S
def uCut (t u : US) : US := fun D X ρ S => ∀ p : QS, CutT (u D X) p → t { D with nx := p } X ρ S
theorem ss_cut (h1 : TPS X W st t) (h2 : TPSs X W rest u) : TPSs X W (st :: rest) (uCut t u) :=
  ⟨wkSs (ss_cons h1 h2).pe fun D σ H ⟨L, F, S, I, ρ, hd, sl, h⟩ => ⟨L, F, S, I, ρ, hd, sl, h _ ⟨fun _ _ q => q⟩⟩, fun D D' X X' ρ S hD hX h p hp => h1.mono { D with nx := p } _ X _ _ _ ⟨fun _ _ q => q, hD.2.1, hD.2.2.1, hD.2.2.2⟩ hX (h p ⟨fun ρ S q => hp.go _ _ (h2.mono _ _ _ _ _ _ hD hX q)⟩)⟩
def uDrop (te : UE) : US := fun D X ρ S => te ρ S (fun _ S1 => D.nx ρ S1) (atR X ρ)
theorem s_expr (he : TPE X W e te) (hs : swapsWith e none pos.line X.env = pure false := by rfl) : TPS X W (.Expr e pos) (uDrop te) :=
  ⟨wkS (ps_expr he.pe hs) fun D σ H ⟨L, F, S, I, ρ, hd, sl, h⟩ => lE_then he.mono hd sl h (dnXS_at sl) fun y S1 v H1 I1 q hd1 s1 sl1 r => q σ H1 I1 hd1 s1 sl1, fun D D' X X' ρ S hD hX h => he.mono _ _ _ _ _ _ (fun _ _ q => hD.1 _ _ q) (fun _ _ _ _ q => hX _ _ _ _ _ q) h⟩
def uRet (te : UE) : US := fun D X ρ S => te ρ S D.rt (atR X ρ)
theorem s_ret (he : TPE X W e te) : TPS X W (.Return (some e) pos) (uRet te) :=
  ⟨wkS (ps_ret he.pe) fun D σ H ⟨L, F, S, I, ρ, hd, sl, h⟩ => lE_then he.mono hd sl h (dnXS_at sl) fun y S1 v H1 I1 q hd1 s1 sl1 r => q v H1 I1 hd1 s1 r, fun D D' X X' ρ S hD hX h => he.mono _ _ _ _ _ _ (fun _ _ q => hD.2.1 _ _ q) (fun _ _ _ _ q => hX _ _ _ _ _ q) h⟩
def uRetN : US := fun D _ _ S => D.rt .non S
def uIfS (c : UT) (t u : US) : US := fun D X ρ S => c ρ S (fun b S1 => if b = true then t D X ρ S1 else u D X ρ S1) (atR X ρ)
theorem s_if {c : Expr} {a b : List Stmt} {tc : UT} (hc : TPT X W c tc) (ha : TPSs X W a t) (hb : TPSs X W b u) : TPS X W (.If c a b pos) (uIfS tc t u) :=
  ⟨wkS (ps_if hc.pe ha.pe hb.pe) fun D σ H ⟨L, F, S, I, ρ, hd, sl, h⟩ => lT_then hc.mono hd sl h (dnXS_at sl) fun c S1 H1 I1 q hd1 s1 sl1 => by
    cases c with
    | true => rw [if_pos rfl] at q ⊢; exact lS_then ha.mono hd1 sl1 q (dnD_up s1) (dnXS_up s1)
    | false => rw [if_neg Bool.false_ne_true] at q ⊢; exact lS_then hb.mono hd1 sl1 q (dnD_up s1) (dnXS_up s1), fun D D' X X' ρ S hD hX h => hc.mono _ _ _ _ _ _ (fun c S1 q => by
      cases c with
      | true => rw [if_pos rfl] at q ⊢; exact ha.mono _ _ _ _ _ _ hD hX q
      | false => rw [if_neg Bool.false_ne_true] at q ⊢; exact hb.mono _ _ _ _ _ _ hD hX q) (fun _ _ _ _ q => hX _ _ _ _ _ q) h⟩
def uNever : US := fun _ _ _ _ => False
/-- name = e -/
def uSet (i : Nat) (te : UE) : US := fun D X ρ S => te ρ S (fun x S1 => D.nx (ρ.set i (some x)) S1) (atR X ρ)
theorem mono_set {i : Nat} (m : MonoE te) : MonoS (uSet i te) := fun D D' X X' ρ S hD hX h => m _ _ _ _ _ _ (fun _ _ q => hD.1 _ _ q) (fun _ _ _ _ q => hX _ _ _ _ _ q) h
theorem lSet {i : Nat} (m : MonoE te) : ∀ D σ H, lS X.K W (uSet i te) D σ H → tAsg (lE X.K W te) (gName i) D σ H := fun D σ H ⟨L, F, S, I, ρ, hd, sl, h⟩ =>
  lE_then m hd sl h (dnXS_at sl) fun y S1 v H1 I1 q hd1 s1 sl1 r => q _ H1 I1 hd1 s1 (sl1.set r)
theorem s_set {i : Nat} {x : Str} {pos' : Pos} (hN : X.N.Nodup) (hi : X.N[i]? = some x) (hx : Loc X.env.scope x) (he : TPE X W e te) (hs : swapsWith e (some (.Name x pos')) pos.line X.env = pure false := by rfl) (hf : X.fn x = true ∨ X.env.scope.names.lookup x = some .local := by first | exact .inl rfl | exact .inr rfl | assumption) :
    TPS X W (.Assign [.Name x pos'] e pos) (uSet i te) := ⟨wkS (ps_set hN hi hx he.pe hs hf) (lSet he.mono), mono_set he.mono⟩
/-- a pattern = e -/
def uAsg (p : Pat) (te : UE) : US := fun D X ρ S => te ρ S (fun x S1 => ∃ ρ2, patR p x ρ = some ρ2 ∧ D.nx ρ2 S1) (atR X ρ)
theorem s_asg {tg : Expr} (p : Pat) (he : TPE X W e te) (hg : PG X tg (gPat X.K p)) (hs : swapsWithSole [tg] e pos.line X.env = pure false := by rfl) (hw : swappedStores [tg] e X.env = pure none := by rfl)
    (h1 : (assignEach [tg] X.env).map (·.2) = [assign tg X.env] := by rfl) : TPS X W (.Assign [tg] e pos) (uAsg p te) :=
  ⟨wkS (ps_asg he.pe hg hs hw h1) fun D σ H ⟨L, F, S, I, ρ, hd, sl, h⟩ => lE_then he.mono hd sl h (dnXS_at sl) fun y S1 v H1 I1 ⟨ρ2, e2, q⟩ hd1 s1 sl1 r =>
    gPat_run hd1 p r sl1 e2 fun σ2 sl2 _ => q σ2 H1 I1 hd1 s1 sl2, fun D D' X X' ρ S hD hX h => he.mono _ _ _ _ _ _ (fun _ _ ⟨ρ2, e2, q⟩ => ⟨ρ2, e2, hD.1 _ _ q⟩) (fun _ _ _ _ q => hX _ _ _ _ _ q) h⟩
/-- x, y = e1, e2 -/
def uPar (i j : Nat) (ta : UA) : US := fun D X ρ S => ta ρ S (fun xs S1 => ∃ x y, xs = [x, y] ∧ D.nx ((ρ.set i (some x)).set j (some y)) S1) (atR X ρ)
/-- name op= e -/
def uAug (i : Nat) (g : Tr → Tr → Tr → Prop) (te : UE) : US := fun D X ρ S => ∃ x : Tr, ρ[i]? = some (some x) ∧ te ρ S (fun y S1 => ∃ z, g (vw S1 x) (vw S1 y) z ∧ D.nx (ρ.set i (some z)) S1) (atR X ρ)
/-! ### for -/
def uLoop (ok : Sto → Prop) (p : Pat) (tb : US) (D : UEnds) (X : XS) : List Tr → Rho → Sto → Prop
  | [], ρ, S => ok S ∧ D.nx ρ S
  | x :: xs, ρ, S => ok S ∧ ∃ ρ2, patR p x ρ = some ρ2 ∧ tb { D with nx := uLoop ok p tb D X xs, ct := uLoop ok p tb D X xs, bk := D.nx } X ρ2 S
def uFor (ui : UI) (p : Pat) (tb : US) : US := fun D X ρ S => ui ρ S (fun wk S1 => uLoop wk.ok p tb D X wk.xs ρ S1) (atR X ρ)
theorem mono_loop {ok : Sto → Prop} {p : Pat} {tb : US} (mb : MonoS tb) {D D' : UEnds} {X X' : XS} (hD : ULe D D') (hX : XSLe X X') : ∀ (xs : List Tr) (ρ : Rho) (S : Sto), uLoop ok p tb D X xs ρ S → uLoop ok p tb D' X' xs ρ S
  | [], ρ, S, h => ⟨h.1, hD.1 _ _ h.2⟩
  | x :: xs, ρ, S, ⟨h1, ρ2, e, h⟩ => ⟨h1, ρ2, e, mb { D with nx := uLoop ok p tb D X xs, ct := uLoop ok p tb D X xs, bk := D.nx } _ X _ _ _ ⟨mono_loop mb hD hX xs, hD.2.1, hD.1, mono_loop mb hD hX xs⟩ hX h⟩
theorem mono_for {ui : UI} {p : Pat} {tb : US} (mi : MonoI ui) (mb : MonoS tb) : MonoS (uFor ui p tb) := fun D D' X X' ρ S hD hX h => mi _ _ _ _ _ _ (fun wk S1 q => mono_loop mb hD hX _ _ _ q) (fun _ _ _ _ q => hX _ _ _ _ _ q) h
theorem loop_run {K : PySem.W.Frag} {L : Lk} {F H1 I1 : Hp} {S1 : Sto} {ρ : Rho} {σ : L2.St} {wk : Walk} {p : Pat} {tb : US} {D : L2.Ends} {J : It} (mb : MonoS tb) (hd : Hd K L F H1 S1 I1) (sl : Slots K I1 σ ρ) (it : ItRep K L I1 J wk)
    (h : uLoop wk.ok p tb (dnD K L F I1 D) (dnXS K L F I1 W) wk.xs ρ S1) : ∃ Wv : Nat → Nat → L2.St → Hp → Prop, (∃ m, Wv 0 m σ H1) ∧ ∀ i m σ H, Wv i m σ H →
      (J.stop i H ∧ D.nx σ H) ∨ (J.go i H ∧ ∃ N : L2.St → Hp → Prop, (∀ σ' H', N σ' H' → ∃ m', m' < m ∧ Wv (i + 1) m' σ' H') ∧ ∀ x H', J.yld i H x H' → gPat K p x σ H' fun σ2 H2 => lS K W tb { D with nx := N, ct := N, bk := D.nx } σ2 H2) := by
  refine ⟨fun i m σ H => m = wk.xs.length - i ∧ i ≤ wk.xs.length ∧ ∃ S I' ρ, Hd K L F H S I' ∧ Same I1 I' ∧ Slots K I' σ ρ ∧ uLoop wk.ok p tb (dnD K L F I1 D) (dnXS K L F I1 W) (wk.xs.drop i) ρ S, ⟨_, rfl, Nat.zero_le _, S1, I1, ρ, hd, Same.refl _, sl, h⟩, ?_⟩
  rintro i m σ H ⟨rfl, hi, S, I', ρ, hd', s', sl', h'⟩
  by_cases hl : i < wk.xs.length
  · obtain ⟨x, ex⟩ : ∃ x, wk.xs[i]? = some x := ⟨_, List.getElem?_eq_getElem hl⟩
    have ed : wk.xs.drop i = x :: wk.xs.drop (i + 1) := by
      rw [List.drop_eq_getElem_cons hl]
      rw [List.getElem?_eq_getElem hl] at ex
      cases ex; rfl
    rw [ed] at h'
    obtain ⟨hok, ρ2, e2, hb⟩ := h'
    refine .inr ⟨it.go F i H S I' hd' s' hok hl, _, fun σ' H' n => ⟨wk.xs.length - (i + 1), by omega, n⟩, fun v H2 y => ?_⟩
    obtain ⟨I2, hd2, s2, r2⟩ := it.yld F i H S I' v H2 x hd' s' hok ex y
    refine gPat_run hd2 p r2 (sl'.mono s2) e2 fun σ2 sl2 _ => lS_then mb hd2 sl2 hb ⟨fun ρ3 S3 q σ3 H3 I3 hd3 s3 sl3 => ?_, dnV_up (s'.trans s2), dnS_up (s'.trans s2), fun ρ3 S3 q σ3 H3 I3 hd3 s3 sl3 => ?_⟩ (dnXS_up (s'.trans s2))
    · exact ⟨rfl, hl, S3, I3, ρ3, hd3, (s'.trans s2).trans s3, sl3, q⟩
    · exact ⟨rfl, hl, S3, I3, ρ3, hd3, (s'.trans s2).trans s3, sl3, q⟩
  · have e : i = wk.xs.length := by omega
    rw [List.drop_eq_nil_of_le (by omega)] at h'
    exact .inl ⟨it.stop F i H S I' hd' s' h'.1 e, h'.2 σ H I' hd' s' sl'⟩
theorem s_for {tg iter : Expr} {body : List Stmt} {ui : UI} {tb : US} (p : Pat) (hp : PassesOwn (model X.prog X.w) X.A X.env X.xe) (hc : X.calm = true) (hi : TPI X W tg iter ui) (hg : PG X tg (gPat X.K p)) (hb : TPSs X W body tb)
    (hs : ∀ x, foldedSetIterable iter X.env x = pure x := by intro _; rfl) : TPS X W (.For tg iter body [] pos) (uFor ui p tb) :=
  ⟨wkS (ps_for hp hc hi.pe hg hb.pe hs) fun D σ H ⟨L, F, S, I, ρ, hd, sl, h⟩ => ⟨L, F, S, I, ρ, hd, sl, hi.mono _ _ _ _ _ _ (fun wk S1 q J H1 I1 hd1 s1 it => loop_run hb.mono hd1 (sl.mono s1) it (mono_loop hb.mono (dnD_up s1) (dnXS_up s1) _ _ _ q)) (dnXS_at sl) h⟩, mono_for hi.mono hb.mono⟩
/-! ### while -/
def uWhile (c : UT) (tb : US) : US := fun D X ρ S => ∃ Wv : Nat → Rho → Sto → Prop, (∃ m, Wv m ρ S) ∧ ∀ m ρ S, Wv m ρ S →
  c ρ S (fun b S1 => if b = true then tb { D with nx := fun ρ' S' => ∃ m', m' < m ∧ Wv m' ρ' S', ct := fun ρ' S' => ∃ m', m' < m ∧ Wv m' ρ' S', bk := D.nx } X ρ S1 else D.nx ρ S1) (atR X ρ)
theorem s_while {c : Expr} {body : List Stmt} {tc : UT} {tb : US} (hp : PassesOwn (model X.prog X.w) X.A X.env X.xe) (hc : TPT X W c tc) (hb : TPSs X W body tb) : TPS X W (.While c body [] pos) (uWhile tc tb) :=
  ⟨wkS (ps_while hp hc.pe hb.pe) fun D σ H ⟨L, F, S, I, ρ, hd, sl, Wv, ⟨m0, w0⟩, turn⟩ => by
    refine ⟨fun m σ H => ∃ S I' ρ, Hd X.K L F H S I' ∧ Same I I' ∧ Slots X.K I' σ ρ ∧ Wv m ρ S, ⟨m0, S, I, ρ, hd, Same.refl _, sl, w0⟩, ?_⟩
    rintro m σ H ⟨S, I', ρ, hd', s', sl', w'⟩
    refine lT_then hc.mono hd' sl' (turn m ρ S w') (fun c f x S2 q => dnXS_at sl' _ _ _ _ (dnXS_up s' _ _ _ _ _ q)) fun b S1 H1 I1 q hd1 s1 sl1 => ?_
    cases b with
    | true =>
      rw [if_pos rfl] at q ⊢
      refine ⟨fun σ2 H2 => ∃ m', m' < m ∧ ∃ S I' ρ, Hd X.K L F H2 S I' ∧ Same I I' ∧ Slots X.K I' σ2 ρ ∧ Wv m' ρ S, fun σ2 H2 z => z, ?_⟩
      refine lS_then hb.mono hd1 sl1 q ⟨fun ρ3 S3 ⟨m', hm, w3⟩ σ3 H3 I3 hd3 s3 sl3 => ⟨m', hm, S3, I3, ρ3, hd3, (s'.trans s1).trans s3, sl3, w3⟩, dnV_up (s'.trans s1), dnS_up (s'.trans s1), fun ρ3 S3 ⟨m', hm, w3⟩ σ3 H3 I3 hd3 s3 sl3 => ⟨m', hm, S3, I3, ρ3, hd3, (s'.trans s1).trans s3, sl3, w3⟩⟩ (dnXS_up (s'.trans s1))
    | false => rw [if_neg Bool.false_ne_true] at q ⊢; exact q σ H1 I1 hd1 (s'.trans s1) sl1, fun D D' X X' ρ S hD hX ⟨Wv, w0, turn⟩ => ⟨Wv, w0, fun m ρ S w => hc.mono _ _ _ _ _ _ (fun b S1 q => by
      cases b with
      | true => rw [if_pos rfl] at q ⊢; exact hb.mono { D with nx := fun ρ' S' => ∃ m', m' < m ∧ Wv m' ρ' S', ct := fun ρ' S' => ∃ m', m' < m ∧ Wv m' ρ' S', bk := D.nx } _ X _ _ _ ⟨fun _ _ q => q, hD.2.1, hD.1, fun _ _ q => q⟩ hX q
      | false => rw [if_neg Bool.false_ne_true] at q ⊢; exact hD.1 _ _ q) (fun _ _ _ _ q => hX _ _ _ _ _ q) (turn m ρ S w)⟩⟩
end
/-! ### what is walked -/
section
variable {X : Cx} {W : WX} {tg l : Expr} {te : UE}
def asL : Tr → Option (List Tr)
  | .lst xs => some xs
  | .scr ns => some (ns.map Tr.int)
  | _ => none
/-- over a list, a tuple, the script -/
def uSeqI (te : UE) : UI := fun ρ S R X => te ρ S (fun x S1 => ∃ xs, (asL (vw S1 x) = some xs ∨ vw S1 x = .tup xs) ∧ R ⟨xs, fun S' => vw S' x = vw S1 x⟩ S1) X
theorem mono_seqI (m : MonoE te) : MonoI (uSeqI te) := fun ρ S Q Q' X X' hQ hX h => m _ _ _ _ _ _ (fun x S1 ⟨xs, e, q⟩ => ⟨xs, e, hQ _ _ q⟩) hX h
theorem asL_sq {K : PySem.W.Frag} {L : Lk} {F H I : Hp} {S : Sto} {x : Tr} {v : V} {xs : List Tr} (h : Hd K L F H S I) (r : Rep K I x v) (e : asL (vw S x) = some xs) : ∃ a vs, v = .ref a ∧ SqL K H a vs ∧ RepL K I xs vs := by
  cases z : vw S x with
  | lst ys =>
    rw [z] at e; cases e
    obtain ⟨a, vs, e1, e2, e3⟩ := vw_lst h r z
    exact ⟨a, vs, e1, .inl (.inl e2), e3⟩
  | scr ns =>
    rw [z] at e; cases e
    obtain ⟨a, e1, e2⟩ := vw_scr h r z
    exact ⟨a, _, e1, e2, RepL.ints ns⟩
  | _ => rw [z] at e; cases e
theorem i_seq (hl : TPE X W l te) : TPI X W tg l (uSeqI te) :=
  ⟨wkI (KB.pi_seq hl.pe) fun σ H R ⟨L, F, S, I, ρ, hd, sl, h⟩ => lE_then hl.mono hd sl h (fun _ _ _ _ h => h) fun x S1 v H1 I1 ⟨xs, e, q⟩ hd1 s1 sl1 r => by
    rcases e with e | e
    · obtain ⟨a, vs, rfl, h1, h2⟩ := asL_sq hd1 r e
      refine ⟨a, rfl, .inl ⟨⟨vs, h1⟩, q (Itl X.K a) H1 I1 hd1 s1 ⟨fun F i H S' I' hd' s' hok hi => ?_, fun F i H S' I' hd' s' hok hi => ?_, fun F i H S' I' w H' y hd' s' hok hi hy => ?_⟩⟩⟩
      · obtain ⟨b, ws, eb, h3, h4⟩ := asL_sq (x := x) hd' (r.mono s') (by rw [hok]; exact e)
        cases eb
        have hl : i < ws.length := by rw [h4.len]; exact hi
        exact ⟨ws, ws[i], h3, List.getElem?_eq_getElem hl⟩
      · obtain ⟨b, ws, eb, h3, h4⟩ := asL_sq (x := x) hd' (r.mono s') (by rw [hok]; exact e)
        cases eb
        exact ⟨ws, h3, by rw [h4.len]; show xs.length ≤ i; have : i = xs.length := hi; omega⟩
      · obtain ⟨b, ws, eb, h3, h4⟩ := asL_sq (x := x) hd' (r.mono s') (by rw [hok]; exact e)
        cases eb
        obtain ⟨rfl, hy⟩ := hy
        obtain ⟨u, eu, ru⟩ := h4.get' hi
        have := hy ws h3
        rw [eu] at this; cases this
        exact ⟨I', hd', Same.refl _, ru⟩
    · obtain ⟨a, vs, rfl, h1, h2⟩ := vw_tup hd1 r e
      refine ⟨a, rfl, .inr ⟨⟨vs, h1⟩, q (Itt X.K a) H1 I1 hd1 s1 ⟨fun F i H S' I' hd' s' hok hi => ?_, fun F i H S' I' hd' s' hok hi => ?_, fun F i H S' I' w H' y hd' s' hok hi hy => ?_⟩⟩⟩
      · obtain ⟨b, ws, eb, h3, h4⟩ := vw_tup (x := x) hd' (r.mono s') (by rw [hok]; exact e)
        cases eb
        have hl : i < ws.length := by rw [h4.len]; exact hi
        exact ⟨ws, ws[i], h3, List.getElem?_eq_getElem hl⟩
      · obtain ⟨b, ws, eb, h3, h4⟩ := vw_tup (x := x) hd' (r.mono s') (by rw [hok]; exact e)
        cases eb
        exact ⟨ws, h3, by rw [h4.len]; show xs.length ≤ i; have : i = xs.length := hi; omega⟩
      · obtain ⟨b, ws, eb, h3, h4⟩ := vw_tup (x := x) hd' (r.mono s') (by rw [hok]; exact e)
        cases eb
        obtain ⟨rfl, hy⟩ := hy
        obtain ⟨u, eu, ru⟩ := h4.get' hi
        have := hy ws h3
        rw [eu] at this; cases this
        exact ⟨I', hd', Same.refl _, ru⟩, mono_seqI hl.mono⟩
end
end KQ
namespace KQ
open PySem PySem.Spec PyProof.Rows L2 TL KB
theorem takes0N {X : Cx} : L2N.Takes X (fun _ _ _ _ => False) := fun _ _ x => by
  obtain ⟨_, _, _, _, _, _, _, _, _, _, _, _, _, _, _, _, z⟩ := x
  exact z.elim
theorem fun_okC {P : Program} {w : World} {K : PySem.W.Frag} {mg : Str → Option Value} {base : Heap} {CX : CXT} {x qual : Str} {st : Stmt} {f : Addr} {fd : FuncData} {N ps : List Str} {k : Nat} {sp : Sp} (F : Fun K x qual st f fd) (S : FnScope N ps (defScope st)) (len : ∀ vs H Q E, sp vs H Q E → vs.length = ps.length)
    (hbody : ∀ (cdv : Value) (A : Around) (outer : List Env) (s : Shared) (H : Hp) (vs : List V) (Q : VK) (E : XK), Room k (A.deeper (envOfC qual (defScope st) s.heap.objs.size f cdv)) → sp vs H Q E →
      ∃ t, PSs (cxOf CX P w K mg base N qual (defScope st) f cdv A outer s H E) (defBody st) t ∧ t { nx := fun _ H' => Q .non H', rt := Q } (start N vs) H) : FnOk P w K mg base CX (k + 1) f fd ps sp := by
  obtain ⟨oc, od, kV, doc, pm, an, cdv, ct, osl, rfl, lk, hcd⟩ := F.ex
  exact fn_of lk hcd S len fun A outer s H vs Q E hr hsp => hbody cdv A outer s H vs Q E hr hsp
/-! ### freezing: cells become trees -/
mutual
inductive Res (G : Addr → Prop) (S : Sto) : Tr → Tr → Prop
  | self (x : Tr) : Res G S x x
  | cell {a : Addr} {c y : Tr} (g : G a) (e : S a = some c) (r : Res G S c y) : Res G S (.ref a) y
  | lst {xs ys : List Tr} (r : ResL G S xs ys) : Res G S (.lst xs) (.lst ys)
  | tup {xs ys : List Tr} (r : ResL G S xs ys) : Res G S (.tup xs) (.tup ys)
  | dic {ks : List Key} {xs ys : List Tr} (r : ResL G S xs ys) : Res G S (.dic ks xs) (.dic ks ys)
  | ins {C : Addr} {fs : List Str} {xs ys : List Tr} (r : ResL G S xs ys) : Res G S (.ins C fs xs) (.ins C fs ys)
inductive ResL (G : Addr → Prop) (S : Sto) : List Tr → List Tr → Prop
  | nil : ResL G S [] []
  | cons {x y : Tr} {xs ys : List Tr} (r : Res G S x y) (t : ResL G S xs ys) : ResL G S (x :: xs) (y :: ys)
end
theorem ResL.len {G : Addr → Prop} {S : Sto} : ∀ {xs ys : List Tr}, ResL G S xs ys → ys.length = xs.length
  | _, _, .nil => rfl
  | _, _, .cons r t => by rw [List.length_cons, List.length_cons, t.len]
section
variable {K : PySem.W.Frag} {L : Lk} {F H I : Hp} {S : Sto} {G : Addr → Prop}
open Classical in
/-- the trees' part with what is frozen -/
noncomputable def thaw (H I : Hp) (G : Addr → Prop) : Hp := fun b => if G b then H b else I b
theorem thaw_same (hd : Hd K L F H S I) (g : ∀ a, G a → ∃ c, S a = some c) : Same I (thaw H I G) := fun b o e => by
  unfold thaw
  rw [if_neg]
  · exact e
  · intro z
    obtain ⟨c, ec⟩ := g b z
    rw [(hd.cel b c ec).1] at e
    cases e
mutual
theorem Res.rep (hd : Hd K L F H S I) (g : ∀ a, G a → ∃ c, S a = some c) : ∀ {x y : Tr}, Res G S x y → (∀ v, Rep K I x v → Rep K (thaw H I G) y v) ∧ (∀ a o, CRep K I x o → thaw H I G a = some o → Rep K (thaw H I G) y (.ref a))
  | _, _, .self x => ⟨fun v r => r.mono (thaw_same hd g), fun a o r e => by
      cases x with
      | lst xs => obtain ⟨vs, rfl, h⟩ := r; exact ⟨a, vs, rfl, e, h.mono (thaw_same hd g)⟩
      | dic ks xs => obtain ⟨vs, rfl, l, h⟩ := r; exact ⟨a, vs, rfl, e, l, h.mono (thaw_same hd g)⟩
      | ins C fs xs => obtain ⟨dx, vs, rfl, l, h⟩ := r; exact ⟨a, dx, vs, rfl, e, l, h.mono (thaw_same hd g)⟩
      | opq q => cases r; exact ⟨a, rfl, e⟩
      | sem c => exact ⟨a, o, rfl, e, fun I2 s2 => r I2 a ((thaw_same hd g).trans s2)⟩
      | _ => exact r.elim⟩
  | _, _, .cell (a := a) (c := c) ga ea rc => ⟨fun v r => by
      cases r
      obtain ⟨_, _, o, ho, hc⟩ := hd.cel a c ea
      exact (Res.rep hd g rc).2 a o hc (by unfold thaw; rw [if_pos ga]; exact ho), fun b o r e => r.elim⟩
  | _, _, .lst rl => ⟨fun v r => by
      obtain ⟨a, vs, rfl, h1, h2⟩ := r
      exact ⟨a, vs, rfl, thaw_same hd g _ _ h1, ResL.rep hd g rl vs h2⟩, fun a o r e => by
      obtain ⟨vs, rfl, h⟩ := r
      exact ⟨a, vs, rfl, e, ResL.rep hd g rl vs h⟩⟩
  | _, _, .tup rl => ⟨fun v r => by
      obtain ⟨a, vs, rfl, h1, h2⟩ := r
      exact ⟨a, vs, rfl, sqT_mono (thaw_same hd g) h1, ResL.rep hd g rl vs h2⟩, fun a o r e => r.elim⟩
  | _, _, .dic rl => ⟨fun v r => by
      obtain ⟨a, vs, rfl, h1, h2, h3⟩ := r
      exact ⟨a, vs, rfl, thaw_same hd g _ _ h1, h2.trans rl.len.symm, ResL.rep hd g rl vs h3⟩, fun a o r e => by
      obtain ⟨vs, rfl, l, h⟩ := r
      exact ⟨a, vs, rfl, e, l.trans rl.len.symm, ResL.rep hd g rl vs h⟩⟩
  | _, _, .ins rl => ⟨fun v r => by
      obtain ⟨a, dx, vs, rfl, h1, h2, h3⟩ := r
      exact ⟨a, dx, vs, rfl, thaw_same hd g _ _ h1, h2.trans rl.len.symm, ResL.rep hd g rl vs h3⟩, fun a o r e => by
      obtain ⟨dx, vs, rfl, l, h⟩ := r
      exact ⟨a, dx, vs, rfl, e, l.trans rl.len.symm, ResL.rep hd g rl vs h⟩⟩
theorem ResL.rep (hd : Hd K L F H S I) (g : ∀ a, G a → ∃ c, S a = some c) : ∀ {xs ys : List Tr}, ResL G S xs ys → ∀ vs, RepL K I xs vs → RepL K (thaw H I G) ys vs
  | _, _, .nil, vs, h => h
  | _, _, .cons r t, vs, h => by
    obtain ⟨v, ws, rfl, h1, h2⟩ := h
    exact ⟨v, ws, rfl, (Res.rep hd g r).1 v h1, ResL.rep hd g t ws h2⟩
end
theorem Hd.thawed {S' : Sto} (hd : Hd K L F H S I) (g : ∀ a, G a → ∃ c, S a = some c) (s : ∀ a c, S' a = some c → S a = some c ∧ ¬ G a) : Hd K L F H S' (thaw H I G) := by
  have sm := thaw_same (G := G) hd g
  have low : ∀ b o, thaw H I G b = some o → (G b ∧ H b = some o) ∨ (¬ G b ∧ I b = some o) := fun b o e => by
    unfold thaw at e
    split at e
    · rename_i z; exact .inl ⟨z, e⟩
    · rename_i z; exact .inr ⟨z, e⟩
  refine ⟨fun b o e => ?_, fun b od e => ?_, fun a c e => ?_, fun b o e => ?_⟩
  · rcases low b o e with ⟨z, e⟩ | ⟨z, e⟩
    · obtain ⟨c, ec⟩ := g b z
      rw [hd.lkN (hd.cel b c ec).1]
      exact e
    · exact hd.sub b o e
  · obtain ⟨k, e⟩ := hd.lck b od e
    exact ⟨k, sm _ _ e⟩
  · obtain ⟨e1, ng⟩ := s a c e
    obtain ⟨h1, h2, o, h3, h4⟩ := hd.cel a c e1
    exact ⟨by unfold thaw; rw [if_neg ng]; exact h1, h2, o, h3, h4.mono sm⟩
  · obtain ⟨h1, h2⟩ := hd.fra b o e
    refine ⟨h1, ?_⟩
    cases q : thaw H I G b with
    | none => rfl
    | some u =>
      rcases low b u q with ⟨z, _⟩ | ⟨_, z⟩
      · obtain ⟨c, ec⟩ := g b z
        rw [(hd.cel b c ec).2.1] at e
        cases e
      · rw [h2] at z; cases z
end
def Frz (y : Tr) (S : Sto) (y' : Tr) (S' : Sto) : Prop := ∃ G : Addr → Prop, Res G S y y' ∧ (∀ a c, S' a = some c → S a = some c ∧ ¬ G a) ∧ ∀ a, G a → ∃ c, S a = some c
def Closed (Q : QV) : Prop := ∀ y S y' S', Frz y S y' S' → Q y' S' → Q y S
def Sub (S' S : Sto) : Prop := ∀ a c, S' a = some c → S a = some c
def ClosedX (X : QX) : Prop := ∀ c fs xs S S', Sub S' S → X c fs xs S' → X c fs xs S
theorem dnV_closed {K : PySem.W.Frag} {L : Lk} {F I : Hp} {R : VK} : Closed (dnV K L F I R) := fun y S y' S' ⟨G, r, s, g⟩ q v H' I' hd sm rp =>
  q v H' (thaw H' I' G) (hd.thawed g s) (sm.trans (thaw_same hd g)) ((r.rep hd g).1 v rp)
/-- a cell that goes out as a tree -/
theorem Frz.one {S S' : Sto} {a : Addr} {c : Tr} (e : S a = some c) (s : Sub S' S) (n : S' a = none) : Frz (.ref a) S c S' :=
  ⟨fun b => b = a, .cell rfl e (.self c), fun b d h => ⟨s b d h, fun z => by subst z; rw [n] at h; cases h⟩, fun b z => ⟨c, by rw [z]; exact e⟩⟩
theorem Frz.drop {S S' : Sto} {y : Tr} (s : Sub S' S) : Frz y S y S' := ⟨fun _ => False, .self y, fun b d h => ⟨s b d h, fun z => z⟩, fun _ z => z.elim⟩
theorem Closed.one {Q : QV} {S S' : Sto} {a : Addr} {c : Tr} (h : Closed Q) (e : S a = some c) (s : Sub S' S) (n : S' a = none) (q : Q c S') : Q (.ref a) S := h _ _ _ _ (Frz.one e s n) q
theorem Closed.drop {Q : QV} {S S' : Sto} {y : Tr} (h : Closed Q) (s : Sub S' S) (q : Q y S') : Q y S := h _ _ _ _ (Frz.drop s) q
theorem Sub.noneAt {S' S : Sto} (s : Sub S' S) {d : Addr} (h : S d = none) : S' d = none := by
  cases e : S' d with
  | none => rfl
  | some c => rw [s d c e] at h; cases h
theorem Sub.refl (S : Sto) : Sub S S := fun _ _ h => h
theorem Sub.new {S S' : Sto} {p : Addr} {c : Tr} (s : Sub S' S) (n : S' p = none) : Sub S' (put S p c) := fun a d e => by
  have hn : a ≠ p := fun z => by subst z; rw [n] at e; cases e
  rw [put_ne hn]; exact s a d e
theorem Sub.both {S S' : Sto} {p : Addr} {c : Tr} (s : Sub S' S) : Sub (put S' p c) (put S p c) := fun a d e => by
  by_cases h : a = p
  · subst h; rw [put_same] at e ⊢; exact e
  · rw [put_ne h] at e ⊢; exact s a d e
/-! ### promises over trees -/
abbrev TSp := List Tr → Sto → QV → QX → Prop
def MonoSp (t : TSp) : Prop := ∀ xs S (Q Q' : QV) (X X' : QX), (∀ y S, Q y S → Q' y S) → XLe X X' → t xs S Q X → t xs S Q' X'
def lSp (K : PySem.W.Frag) (t : TSp) : Sp := fun vs H Q E => ∃ L F S I xs, Hd K L F H S I ∧ RepL K I xs vs ∧ t xs S (dnV K L F I Q) (dnX K L F I (fun c d _ H => E c d H) [])
structure CalleeT (P : Program) (w : World) (K : PySem.W.Frag) (mg : Str → Option Value) (base : Heap) (k : Nat) (x : Str) (ps : List Str) (t : TSp) : Prop where
  ex : ∃ (f : Addr) (fd : FuncData), mg x = some (.ref f) ∧ PySem.W.keepIn K (.ref f) = true ∧ Binds K fd ps [] ∧ FnOk P w K mg base (L2N.CX P w) k f fd ps (lSp K t) ∧ ∃ oc od osl, K.lookup f = some ⟨oc, od, .func fd, osl⟩
  mono : MonoSp t
def startT (N : List Str) (xs : List Tr) : Rho := xs.map some ++ List.replicate (N.length - xs.length) none
theorem slots_start {K : PySem.W.Frag} {I : Hp} {N : List Str} {xs : List Tr} {vs : List V} (r : RepL K I xs vs) : Slots K I (start N vs) (startT N xs) := by
  refine ⟨by simp [L2.start, startT, r.len], fun i x e => ?_⟩
  unfold startT at e
  unfold L2.start
  by_cases hi : i < xs.length
  · rw [List.getElem?_append_left (by simpa using hi), List.getElem?_map] at e
    rw [List.getElem?_append_left (by simpa [r.len] using hi), List.getElem?_map]
    cases z : xs[i]? with
    | none => rw [z] at e; cases e
    | some y =>
      rw [z] at e
      cases e
      obtain ⟨v, ev, rv⟩ := r.get' z
      exact ⟨v, by rw [ev]; rfl, rv⟩
  · rw [List.getElem?_append_right (by simpa using hi)] at e
    rw [List.getElem?_replicate] at e
    split at e <;> cases e
section
variable {P : Program} {w : World} {K : PySem.W.Frag} {mg : Str → Option Value} {base : Heap}
/-- the end of a def's body -/
def endU (Q : QV) : UEnds := ⟨fun _ S' => Q .non S', Q, fun _ _ => False, fun _ _ => False⟩
def endX (X : QX) : XS := fun c fs xs _ S' => X c fs xs S'
theorem body_ok {st : Stmt} {N : List Str} {tsp : TSp} {us : US} {X : Cx} {L : Lk} {F H I : Hp} {S : Sto} {xs : List Tr} {vs : List V} {Q : VK} {E : XK} (m : MonoS us) (hd : Hd K L F H S I) (r : RepL K I xs vs)
    (h : us (endU (dnV K L F I Q)) (endX (dnX K L F I (fun c d _ H => E c d H) [])) (startT N xs) S) : lS K (fun cls d _ H => E cls d H) us { nx := fun _ H' => Q .non H', rt := Q } (start N vs) H :=
  lS_then m hd (slots_start r) h ⟨fun ρ S' q σ' H' I' hd' s' sl' => q .non H' I' hd' s' rfl, fun _ _ q => q, fun _ _ q => q.elim, fun _ _ q => q.elim⟩ (fun c fs xs ρ S' q d σ' H' I' hd' s' sl' x => q d H' I' hd' s' x)
theorem Def.okT {x : Str} {st : Stmt} {N ps : List Str} {k : Nat} {tsp : TSp} {us : US} (D : Def K mg x st) (S : FnScope N ps (defScope st))
    (hb : ∀ (kV doc pm : Value) (an : Option Addr) (cdv ct : Value) (us : List Value), us.length = ps.length → bindArgs (PySem.W.fnOf x x (defArgs st) (defBody st) (defScope st) .none kV doc pm an cdv ct) ⟨us, []⟩ = pure (ps.zip us))
    (len : ∀ xs S Q X, tsp xs S Q X → xs.length = ps.length) (mono : MonoSp tsp)
    (body : ∀ (f : Addr) (cdv : Value) (A : Around) (outer : List Env) (s : Shared) (H : Hp) (E : XK), Room k (A.deeper (envOfC x (defScope st) s.heap.objs.size f cdv)) → L2N.Takes (cxOf (L2N.CX P w) P w K mg base N x (defScope st) f cdv A outer s H E) (fun cls d _ H => E cls d H) →
      PassesOwn (model P w) (cxOf (L2N.CX P w) P w K mg base N x (defScope st) f cdv A outer s H E).A (cxOf (L2N.CX P w) P w K mg base N x (defScope st) f cdv A outer s H E).env (cxOf (L2N.CX P w) P w K mg base N x (defScope st) f cdv A outer s H E).xe →
      TPSs (cxOf (L2N.CX P w) P w K mg base N x (defScope st) f cdv A outer s H E) (fun cls d _ H => E cls d H) (defBody st) us)
    (h : ∀ xs S Q X, Closed Q → ClosedX X → tsp xs S Q X → us (endU Q) (endX X) (startT N xs) S) : CalleeT P w K mg base (k + 1) x ps tsp := by
  obtain ⟨f, fd, Fn, g⟩ := D.ex
  have E := Fn.ex
  obtain ⟨oc, od, kV, doc, pm, an, cdv, ct, osl, e, lk, _⟩ := E
  refine ⟨⟨f, fd, g, Fn.kp, Fn.binds hb, fun_okC Fn S (fun vs H Q E ⟨_, _, _, _, xs, _, r, q⟩ => by rw [r.len]; exact len _ _ _ _ q) fun cdv A outer s H vs Q E hr ⟨L, F, S0, I, xs, hd, r, q⟩ => ?_, oc, od, osl, lk⟩, mono⟩
  have B := body f cdv A outer s H E hr (L2N.takes_of rfl rfl rfl rfl) (passes_of rfl)
  exact ⟨_, B.pe, body_ok (st := st) (tsp := tsp) (X := cxOf (L2N.CX P w) P w K mg base N x (defScope st) f cdv A outer s H E) B.mono hd r (h xs S0 _ _ dnV_closed (fun c fs ys S S' sb z d H' I' hd' s' ⟨vs, h1, h2, h3, h4, h5, h6⟩ => z d H' I' (hd'.fewer sb) s' ⟨vs, h1, h2, h3, h4, sb.noneAt h5, h6⟩) q)⟩
/-- a promise that nobody can ask for -/
theorem Def.botT {x : Str} {st : Stmt} {N ps : List Str} {k : Nat} {tsp : TSp} (D : Def K mg x st)
    (hb : ∀ (kV doc pm : Value) (an : Option Addr) (cdv ct : Value) (us : List Value), us.length = ps.length → bindArgs (PySem.W.fnOf x x (defArgs st) (defBody st) (defScope st) .none kV doc pm an cdv ct) ⟨us, []⟩ = pure (ps.zip us))
    (h : ∀ xs S Q X, ¬ tsp xs S Q X) : CalleeT P w K mg base k x ps tsp := by
  obtain ⟨f, fd, F, g⟩ := D.ex
  have E := F.ex
  obtain ⟨oc, od, kV, doc, pm, an, cdv, ct, osl, e, lk, _⟩ := E
  exact ⟨⟨f, fd, g, F.kp, F.binds hb, ⟨fun vs H Q E ⟨_, _, _, _, xs, _, r, q⟩ => (h _ _ _ _ q).elim, fun _ _ _ _ _ _ _ _ _ _ _ _ _ ⟨_, _, _, _, xs, _, r, q⟩ => (h _ _ _ _ q).elim⟩, oc, od, osl, lk⟩, fun xs S Q Q' X X' _ _ q => (h _ _ _ _ q).elim⟩
theorem CalleeT.imp {k : Nat} {x : Str} {ps : List Str} {t t' : TSp} (C : CalleeT P w K mg base k x ps t) (m : MonoSp t') (h : ∀ xs S Q X, Closed Q → t' xs S Q X → t xs S Q X) : CalleeT P w K mg base k x ps t' := by
  obtain ⟨⟨f, fd, g, kp, b, F, lk⟩, _⟩ := C
  exact ⟨⟨f, fd, g, kp, b, F.imp fun vs H Q E ⟨L, F, S, I, xs, hd, r, q⟩ => ⟨L, F, S, I, xs, hd, r, h _ _ _ _ dnV_closed q⟩, lk⟩, m⟩
end
/-! ### calls -/
section
variable {X : Cx} {W : WX} {e : Expr} {es : List Expr} {tr : UA} {pos p : Pos} {k : Nat} {x : Str} {ps : List Str} {tsp : TSp}
def uCall (tsp : TSp) (t : UA) : UE := fun ρ S Q X => t ρ S (fun xs S1 => tsp xs S1 Q X) X
theorem mono_call (ms : MonoSp tsp) (m : MonoA tr) : MonoE (uCall tsp tr) := fun ρ S Q Q' X X' hQ hX h => m _ _ _ _ _ _ (fun xs S1 q => ms _ _ _ _ _ _ hQ hX q) hX h
theorem lCall (ms : MonoSp tsp) (m : MonoA tr) : ∀ σ H R, lE X.K W (uCall tsp tr) σ H R → tCallS (lSp X.K tsp) (WE W) (lA X.K W tr) σ H R := fun σ H R ⟨L, F, S, I, ρ, hd, sl, h⟩ =>
  lA_then m hd sl h (fun _ _ _ _ h => h) fun xs S1 vs H1 I1 q hd1 s1 sl1 r => ⟨L, F, S1, I1, xs, hd1, r, ms _ _ _ _ _ _ (dnV_up s1) (dnX_up s1) q⟩
theorem e_call (C : CalleeT X.prog X.w X.K X.mg X.base k x ps tsp) (hr : Room k X.A) (hg : Gl X x) (tk : L2N.Takes X W) (ha : TPA X W (e :: es) tr) (hdb : (x == ("__debug__" : Str)) = false := by decide)
    (he : starEach (e :: es) X.env = (false, eval e X.env) :: starEach es X.env := by rfl) (hpl : (backTo pos (starEach es X.env)).any (·.1) = false := by rfl) : TPE X W (.Call (.Name x p) (e :: es) [] pos) (uCall tsp tr) := by
  obtain ⟨⟨f, fd, g, kp, b, F, _⟩, ms⟩ := C
  exact ⟨wkE (pe_callS F hr hg g kp b (fun σ => L2N.passAt tk σ) ha.pe hdb he hpl) (lCall ms ha.mono), mono_call ms ha.mono⟩
end
/-! ### list comprehensions -/
section
variable {X : Cx} {W : WX}
abbrev W0 : WX := fun _ _ _ _ => False
abbrev X0 : QX := fun _ _ _ _ => False
structure TPTs (X : Cx) (ifs : List Expr) (t : UT) : Prop where
  pe : PTs X ifs (lT X.K W0 t)
  mono : MonoT t
def uYes : UT := fun _ S Q _ => Q true S
theorem ts_nil : TPTs X [] uYes := ⟨⟨fun pins s σ H Q I h => pts_nil.run pins s σ H Q I (by
  obtain ⟨L, F, S, I', ρ, hd, sl, q⟩ := h
  exact q H I' hd (Same.refl _))⟩, fun _ _ _ _ _ _ hQ _ h => hQ _ _ h⟩
def uLcL (ok : Sto → Prop) (p : Pat) (tt : UT) (te : UE) (ρ : Rho) (Q : QV) : List Tr → List Tr → Sto → Prop
  | [], acc, S => ok S ∧ Q (.lst acc) S
  | x :: xs, acc, S => ok S ∧ ∃ ρ2, patR p x ρ = some ρ2 ∧ tt ρ2 S (fun b S3 => if b = true then te ρ2 S3 (fun y S4 => acc.length < sizeLine ∧ uLcL ok p tt te ρ Q xs (acc ++ [y]) S4) X0 else uLcL ok p tt te ρ Q xs acc S3) X0
def uLc (ui : UI) (p : Pat) (tt : UT) (te : UE) (vs : List Nat) : UE := fun ρ S Q X => ui ρ S (fun wk S1 => uLcL wk.ok p tt te (wipeR ρ vs) Q wk.xs [] S1) X
theorem mono_lcL {ok : Sto → Prop} {p : Pat} {tt : UT} {te : UE} {ρ : Rho} {Q Q' : QV} (mt : MonoT tt) (me : MonoE te) (hQ : ∀ y S, Q y S → Q' y S) : ∀ (xs acc : List Tr) (S : Sto), uLcL ok p tt te ρ Q xs acc S → uLcL ok p tt te ρ Q' xs acc S
  | [], acc, S, h => ⟨h.1, hQ _ _ h.2⟩
  | x :: xs, acc, S, ⟨h1, ρ2, e, h⟩ => ⟨h1, ρ2, e, mt _ _ _ _ _ _ (fun b S3 q => by
      cases b with
      | true => rw [if_pos rfl] at q ⊢; exact me _ _ _ _ _ _ (fun y S4 ⟨z, q⟩ => ⟨z, mono_lcL mt me hQ xs _ _ q⟩) (fun _ _ _ _ q => q) q
      | false => rw [if_neg Bool.false_ne_true] at q ⊢; exact mono_lcL mt me hQ xs _ _ q) (fun _ _ _ _ q => q) h⟩
theorem mono_lc {ui : UI} {p : Pat} {tt : UT} {te : UE} {vs : List Nat} (mi : MonoI ui) (mt : MonoT tt) (me : MonoE te) : MonoE (uLc ui p tt te vs) := fun ρ S Q Q' X X' hQ hX h => mi _ _ _ _ _ _ (fun wk S1 q => mono_lcL mt me hQ _ _ _ q) hX h
theorem x0_le {K : PySem.W.Frag} {L : Lk} {F I : Hp} {σ : L2.St} : XLe X0 (dnX K L F I W0 σ) := fun _ _ _ _ q => q.elim
theorem lc_runG {K : PySem.W.Frag} {L : Lk} {F H1 I1 : Hp} {S1 : Sto} {ρ : Rho} {σ : L2.St} {wk : Walk} {p : Pat} {tt : UT} {te : UE} {vs : List Nat} {Q : VK} {Qu : QV} {J : It} {D : Addr} (mt : MonoT tt) (me : MonoE te) (hv : ∀ i ∈ p.slots, i ∈ vs) (hd : Hd K L F H1 S1 I1) (sl : Slots K I1 σ ρ) (it : ItRep K L I1 J wk) (nD : H1 D = none)
    (h : uLcL wk.ok p tt te (wipeR ρ vs) Qu wk.xs [] S1) (hq : ∀ acc accv S H I', Hd K L (upd F D (.lst accv)) H S I' → Same I1 I' → RepL K I' acc accv → Qu (.lst acc) S → Q (.ref D) H) : ∃ Wv : Nat → Nat → Hp → Prop, (∃ m, Wv 0 m (upd H1 D (.lst []))) ∧ ∀ i m H, Wv i m H →
      (J.stop i H ∧ Q (.ref D) H) ∨ (J.go i H ∧ ∃ Nx : Hp → Prop, (∀ H', Nx H' → ∃ m', m' < m ∧ Wv (i + 1) m' H') ∧ ∀ x H', J.yld i H x H' → gPat K p x (wipe σ vs) H' fun σ2 H2 => wipe σ2 vs = wipe σ vs ∧ lT K W0 tt σ2 H2 fun b H3 =>
        if b = true then lE K W0 te σ2 H3 fun y H4 => ∃ acc, H4 D = some (.lst acc) ∧ acc.length < sizeLine ∧ Nx (upd H4 D (.lst (acc ++ [y]))) else Nx H3) := by
  refine ⟨fun i m H => m = wk.xs.length - i ∧ i ≤ wk.xs.length ∧ ∃ acc accv S I', Hd K L (upd F D (.lst accv)) H S I' ∧ Same I1 I' ∧ RepL K I' acc accv ∧ uLcL wk.ok p tt te (wipeR ρ vs) Qu (wk.xs.drop i) acc S,
    ⟨_, rfl, Nat.zero_le _, [], [], S1, I1, hd.frame nD, Same.refl _, rfl, h⟩, ?_⟩
  rintro i m H ⟨rfl, hi, acc, accv, S, I', hd', s', ra, h'⟩
  have fD : F D = none := hd.freeF nD
  by_cases hl : i < wk.xs.length
  · obtain ⟨x, ex⟩ : ∃ x, wk.xs[i]? = some x := ⟨_, List.getElem?_eq_getElem hl⟩
    have ed : wk.xs.drop i = x :: wk.xs.drop (i + 1) := by
      rw [List.drop_eq_getElem_cons hl]
      rw [List.getElem?_eq_getElem hl] at ex
      cases ex; rfl
    rw [ed] at h'
    obtain ⟨hok, ρ2, e2, hb⟩ := h'
    refine .inr ⟨it.go _ i H S I' hd' s' hok hl, _, fun H' n => ⟨wk.xs.length - (i + 1), by omega, n⟩, fun v H2 y => ?_⟩
    obtain ⟨I2, hd2, s2, r2⟩ := it.yld _ i H S I' v H2 x hd' s' hok ex y
    refine gPat_run hd2 p r2 ((sl.mono (s'.trans s2)).wipe (vs := vs)) e2 fun σ2 sl2 wp => ⟨(wp vs hv).trans (wipe_wipe σ vs), ?_⟩
    refine lT_then mt hd2 sl2 hb x0_le fun b S3 H3 I3 q3 hd3 s3 sl3 => ?_
    cases b with
    | true =>
      rw [if_pos rfl] at q3 ⊢
      refine lE_then me hd3 sl3 q3 x0_le fun z S4 w H4 I4 ⟨hz, q4⟩ hd4 s4 sl4 rz => ⟨accv, (hd4.fra D _ upd_same).1, by rw [ra.len]; exact hz, ?_⟩
      exact ⟨rfl, hl, acc ++ [z], accv ++ [w], S4, I4, hd4.refr, ((s'.trans s2).trans s3).trans s4, (ra.mono ((s2.trans s3).trans s4)).app (.cons rz rfl), q4⟩
    | false =>
      rw [if_neg Bool.false_ne_true] at q3 ⊢
      exact ⟨rfl, hl, acc, accv, S3, I3, hd3, (s'.trans s2).trans s3, ra.mono (s2.trans s3), q3⟩
  · have e : i = wk.xs.length := by omega
    rw [List.drop_eq_nil_of_le (by omega)] at h'
    exact .inl ⟨it.stop _ i H S I' hd' s' h'.1 e, hq acc accv S H I' hd' s' ra h'.2⟩
theorem lc_run {K : PySem.W.Frag} {L : Lk} {F H1 I1 : Hp} {S1 : Sto} {ρ : Rho} {σ : L2.St} {wk : Walk} {p : Pat} {tt : UT} {te : UE} {vs : List Nat} {Q : VK} {J : It} {D : Addr} (mt : MonoT tt) (me : MonoE te) (hv : ∀ i ∈ p.slots, i ∈ vs) (hd : Hd K L F H1 S1 I1) (sl : Slots K I1 σ ρ) (it : ItRep K L I1 J wk) (nD : H1 D = none)
    (h : uLcL wk.ok p tt te (wipeR ρ vs) (dnV K L F I1 Q) wk.xs [] S1) : ∃ Wv : Nat → Nat → Hp → Prop, (∃ m, Wv 0 m (upd H1 D (.lst []))) ∧ ∀ i m H, Wv i m H →
      (J.stop i H ∧ Q (.ref D) H) ∨ (J.go i H ∧ ∃ Nx : Hp → Prop, (∀ H', Nx H' → ∃ m', m' < m ∧ Wv (i + 1) m' H') ∧ ∀ x H', J.yld i H x H' → gPat K p x (wipe σ vs) H' fun σ2 H2 => wipe σ2 vs = wipe σ vs ∧ lT K W0 tt σ2 H2 fun b H3 =>
        if b = true then lE K W0 te σ2 H3 fun y H4 => ∃ acc, H4 D = some (.lst acc) ∧ acc.length < sizeLine ∧ Nx (upd H4 D (.lst (acc ++ [y]))) else Nx H3) :=
  lc_runG mt me hv hd sl it nD h fun acc accv S H I' hd' s' ra h' =>
    have iD : I' D = none := (hd'.fra D _ upd_same).2
    h' _ H _ (hd'.unframe (hd.freeF nD)) (s'.trans (upd_sub iD)) ⟨D, accv, rfl, upd_same, ra.mono (upd_sub iD)⟩
/-- the list of a comprehension, as a cell -/
def qCell (Q : QV) : QV := fun y S => ∃ xs, y = .lst xs ∧ ∀ p, S p = none → Q (.ref p) (put S p (.lst xs))
def uLcC (ui : UI) (p : Pat) (tt : UT) (te : UE) (vs : List Nat) : UE := fun ρ S Q X => ui ρ S (fun wk S1 => uLcL wk.ok p tt te (wipeR ρ vs) (qCell Q) wk.xs [] S1) X
theorem lLc {ui : UI} {p : Pat} {tt : UT} {te : UE} {vs : List Nat} (mi : MonoI ui) (mt : MonoT tt) (me : MonoE te) (hv : ∀ i ∈ p.slots, i ∈ vs) : ∀ σ H R, lE X.K W (uLc ui p tt te vs) σ H R → tLc (lI X.K W ui) (gPat X.K p) (lT X.K W0 tt) (lE X.K W0 te) vs σ H R := fun σ H R ⟨L, F, S, I, ρ, hd, sl, h⟩ =>
  ⟨L, F, S, I, ρ, hd, sl, mi _ _ _ _ _ _ (fun wk S1 q J H1 I1 hd1 s1 it D nD => lc_run mt me hv hd1 (sl.mono s1) it nD (mono_lcL mt me (dnV_up s1) _ _ _ q)) (fun _ _ _ _ q => q) h⟩
theorem e_lc {elt tg iter : Expr} {ifs : List Expr} {scope : Scope} {own : List (Str × Nat)} {pos : Pos} {ui : UI} {tt : UT} {te : UE} (p : Pat) (hc : X.calm = true) (hN : X.N.Nodup) (hi : TPI X W tg iter ui) (ok : BlkOk X.N X.env.scope scope own) (hv : ∀ i ∈ p.slots, i ∈ own.map (·.2))
    (hg : ∀ (s : Shared) (H : Hp) (C : Addr) (cl : List (Str × Addr)) (fp : List Addr), PG (X.blk s H scope (compEnvC scope cl C X.env) fp) tg (gPat X.K p)) (ht : ∀ (s : Shared) (H : Hp) (C : Addr) (cl : List (Str × Addr)) (fp : List Addr), TPTs (X.blk s H scope (compEnvC scope cl C X.env) fp) ifs tt)
    (he : ∀ (s : Shared) (H : Hp) (C : Addr) (cl : List (Str × Addr)) (fp : List Addr), TPE (X.blk s H scope (compEnvC scope cl C X.env) fp) W0 elt te) (hs : ∀ x, foldedSetIterable iter X.env x = pure x := by intro _; rfl) :
    TPE X W (.ListComp elt [⟨tg, iter, ifs, 0⟩] scope pos) (uLc ui p tt te (own.map (·.2))) :=
  ⟨⟨fun pins s σ H Q I h => (pe_lc hc hN hi.pe ok hg (fun s H C cl fp => (ht s H C cl fp).pe) (fun s H C cl fp => (he s H C cl fp).pe) hs).run pins s σ H Q I (lLc hi.mono (ht s H 0 [] []).mono (he s H 0 [] []).mono hv σ H Q h)⟩, mono_lc hi.mono (ht X.s_0 X.H_0 0 [] []).mono (he X.s_0 X.H_0 0 [] []).mono⟩
end
end KQ
namespace KQ
open PySem PySem.Spec PyProof.Rows L2 TL KB
/-! ### operators over trees -/
section
variable {K : PySem.W.Frag}
/-- what a flat tree is -/
theorem vw_eq_non {L : Lk} {F H I : Hp} {S : Sto} {x : Tr} {v : V} (hd : Hd K L F H S I) (r : Rep K I x v) (e : vw S x = .non) : v = .non := by
  have z := Rep.flat r (.inl e) hd
  rw [z] at e; subst e; exact r
theorem vw_eq_bl {L : Lk} {F H I : Hp} {S : Sto} {x : Tr} {v : V} {b : Bool} (hd : Hd K L F H S I) (r : Rep K I x v) (e : vw S x = .bl b) : v = .bl b := by
  have z := Rep.flat r (.inr (.inl ⟨b, e⟩)) hd
  rw [z] at e; subst e; exact r
theorem vw_eq_int {L : Lk} {F H I : Hp} {S : Sto} {x : Tr} {v : V} {n : Int} (hd : Hd K L F H S I) (r : Rep K I x v) (e : vw S x = .int n) : v = .int n := by
  have z := Rep.flat r (.inr (.inr (.inl ⟨n, e⟩))) hd
  rw [z] at e; subst e; exact r
theorem vw_eq_str {L : Lk} {F H I : Hp} {S : Sto} {x : Tr} {v : V} {n : Str} (hd : Hd K L F H S I) (r : Rep K I x v) (e : vw S x = .str n) : v = .str n := by
  have z := Rep.flat r (.inr (.inr (.inr ⟨n, e⟩))) hd
  rw [z] at e; subst e; exact r
theorem vw_eq_ty {L : Lk} {F H I : Hp} {S : Sto} {x : Tr} {v : V} {n : String} (hd : Hd K L F H S I) (r : Rep K I x v) (e : vw S x = .ty n) : v = .ty n := by
  rcases vw_cases S x with ⟨e1, _⟩ | ⟨a, c, rfl, ea, e1⟩
  · rw [e1] at e; subst e; exact r
  · obtain ⟨_, _, o, h1, h2⟩ := hd.cel a _ ea
    rw [e1] at e; subst e; exact h2.elim
theorem vw_eq_ref {L : Lk} {F H I : Hp} {S : Sto} {x : Tr} {v : V} {a : Addr} (hd : Hd K L F H S I) (r : Rep K I x v) (e : vw S x = .ref a) : v = .ref a := by
  rcases vw_cases S x with ⟨e1, _⟩ | ⟨b, c, rfl, ea, e1⟩
  · rw [e1] at e; subst e; exact r
  · obtain ⟨_, _, o, h1, h2⟩ := hd.cel b _ ea
    rw [e1] at e; subst e; exact h2.elim
end
def gAdd (x y z : Tr) : Prop := match x, y with
  | .int i, .int j => z = .int (i + j)
  | .str a, .str b => a.length + b.length ≤ sizeLine ∧ z = .str (a ++ b)
  | .lst xs, .lst ys => xs.length + ys.length ≤ sizeLine ∧ z = .lst (xs ++ ys)
  | .tup xs, .tup ys => xs.length + ys.length ≤ sizeLine ∧ z = .tup (xs ++ ys)
  | _, _ => False
def gInt2 (C : Int → Int → Prop) (f : Int → Int → Tr) (x y z : Tr) : Prop := match x, y with
  | .int i, .int j => C i j ∧ z = f i j
  | _, _ => False
abbrev gSub := gInt2 (fun _ _ => True) fun i j => .int (i - j)
def gMul (x y z : Tr) : Prop := match x, y with
  | .int i, .int j => (CMul i j ∨ CMulW i j) ∧ z = .int (i * j)
  | .lst xs, .int k => (-(2 ^ 63) ≤ k ∧ k < 2 ^ 63 ∧ xs.length * k.toNat ≤ sizeLine) ∧ z = .lst (List.replicate k.toNat xs).flatten
  | _, _ => False
abbrev gMod := gInt2 (fun _ j => 0 < j) fun i j => .int (i % j)
abbrev gFd := gInt2 CDivW fun i j => .int (i / j)
abbrev gPow := gInt2 CPow fun i j => .int (i ^ j.toNat)
abbrev gLt := gInt2 (fun _ _ => True) fun i j => .bl (decide (i < j))
abbrev gLe := gInt2 (fun _ _ => True) fun i j => .bl (decide (i ≤ j))
abbrev gGt := gInt2 (fun _ _ => True) fun i j => .bl (decide (j < i))
abbrev gGe := gInt2 (fun _ _ => True) fun i j => .bl (decide (j ≤ i))
section
variable {X : Cx} {K : PySem.W.Frag}
theorem opt_int2 {C : Int → Int → Prop} {f : Int → Int → Tr} {g : Int → Int → V} {r : R2} (hr : ∀ {i j H Q}, C i j → Q (g i j) H → r (.int i) (.int j) H Q) (hf : ∀ i j I, Rep K I (f i j) (g i j)) : OpT K r (gInt2 C f) := by
  intro L F H S I x y z v w R hd rx ry hg k
  unfold gInt2 at hg
  split at hg
  · rename_i i j e1 e2
    cases vw_eq_int hd rx e1
    cases vw_eq_int hd ry e2
    obtain ⟨c, rfl⟩ := hg
    exact hr c (k _ H I hd (Same.refl _) (hf i j I))
  · exact hg.elim
theorem o_sub : OpT K (rI0 fun i j => .int (i - j)) gSub := opt_int2 (f := fun i j => .int (i - j)) (g := fun i j => .int (i - j)) (fun _ q => ⟨_, _, rfl, rfl, q⟩) fun _ _ _ => rfl
theorem o_mod : OpT K KB.rMd gMod := opt_int2 (f := fun i j => .int (i % j)) (g := fun i j => .int (i % j)) (fun c q => ⟨_, _, rfl, rfl, c, q⟩) fun _ _ _ => rfl
theorem o_fd : OpT K KB.rFd gFd := opt_int2 (f := fun i j => .int (i / j)) (g := fun i j => .int (i / j)) (fun c q => ⟨_, _, rfl, rfl, c, q⟩) fun _ _ _ => rfl
theorem o_pow : OpT K (rI CPow fun i j => .int (i ^ j.toNat)) gPow := opt_int2 (f := fun i j => .int (i ^ j.toNat)) (g := fun i j => .int (i ^ j.toNat)) (fun c q => ⟨_, _, rfl, rfl, c, q⟩) fun _ _ _ => rfl
theorem o_lt : OpT K (rI0 fun i j => .bl (decide (i < j))) gLt := opt_int2 (f := fun i j => .bl (decide (i < j))) (g := fun i j => .bl (decide (i < j))) (fun _ q => ⟨_, _, rfl, rfl, q⟩) fun _ _ _ => rfl
theorem o_le : OpT K (rI0 fun i j => .bl (decide (i ≤ j))) gLe := opt_int2 (f := fun i j => .bl (decide (i ≤ j))) (g := fun i j => .bl (decide (i ≤ j))) (fun _ q => ⟨_, _, rfl, rfl, q⟩) fun _ _ _ => rfl
theorem o_gt : OpT K (rI0 fun i j => .bl (decide (j < i))) gGt := opt_int2 (f := fun i j => .bl (decide (j < i))) (g := fun i j => .bl (decide (j < i))) (fun _ q => ⟨_, _, rfl, rfl, q⟩) fun _ _ _ => rfl
theorem o_ge : OpT K (rI0 fun i j => .bl (decide (j ≤ i))) gGe := opt_int2 (f := fun i j => .bl (decide (j ≤ i))) (g := fun i j => .bl (decide (j ≤ i))) (fun _ q => ⟨_, _, rfl, rfl, q⟩) fun _ _ _ => rfl
/-- + of ints, texts, lists, tuples -/
def rAd2 (K : PySem.W.Frag) : R2 := fun x y H Q => KB.rAd x y H Q ∨ rCatA K x y H Q
theorem ad_op : OpR X (binaryOp .Add) (rAd2 X.K) := OpR.or ad_any op_catA
theorem o_add : OpT K (rAd2 K) gAdd := by
  intro L F H S I x y z v w R hd rx ry hg k
  unfold gAdd at hg
  split at hg
  · rename_i i j e1 e2
    cases vw_eq_int hd rx e1
    cases vw_eq_int hd ry e2
    subst hg
    exact .inl (.inl ⟨i, j, rfl, rfl, k _ H I hd (Same.refl _) rfl⟩)
  · rename_i a b e1 e2
    cases vw_eq_str hd rx e1
    cases vw_eq_str hd ry e2
    obtain ⟨c, rfl⟩ := hg
    exact .inl (.inr (.inl ⟨a, b, rfl, rfl, c, k _ H I hd (Same.refl _) rfl⟩))
  · rename_i xs ys e1 e2
    obtain ⟨a, vs, rfl, h1, h2⟩ := vw_lst hd rx e1
    obtain ⟨b, ws, rfl, h3, h4⟩ := vw_lst hd ry e2
    obtain ⟨c, rfl⟩ := hg
    refine .inl (.inr (.inr ⟨a, b, vs, ws, rfl, rfl, h1, h3, by rw [h2.len, h4.len]; exact c, fun p np => k _ _ _ (hd.imm np) (upd_sub (hd.freeI np)) ⟨p, vs ++ ws, rfl, upd_same, (h2.app h4).mono (upd_sub (hd.freeI np))⟩⟩))
  · rename_i xs ys e1 e2
    obtain ⟨a, vs, rfl, h1, h2⟩ := vw_tup hd rx e1
    obtain ⟨b, ws, rfl, h3, h4⟩ := vw_tup hd ry e2
    obtain ⟨c, rfl⟩ := hg
    have ex : ∀ {x : Tr} {u : V} {zs : List Tr}, Rep K I x u → vw S x = .tup zs → Rep K I (.tup zs) u := fun {x u zs} r e => by
      rcases vw_cases S x with ⟨e1, _⟩ | ⟨b, c, rfl, ea, e1⟩
      · rw [e1] at e; subst e; exact r
      · obtain ⟨_, _, o, _, q⟩ := hd.cel b _ ea
        rw [e1] at e; subst e; exact q.elim
    have z1 := h2.len
    have z2 := h4.len
    refine .inr ⟨a, b, vs, ws, rfl, rfl, h1, h3, by rw [z1, z2]; exact c, fun e => ?_, fun _ e => ?_, fun _ _ p np => ?_⟩
    · subst e
      have : xs = [] := List.length_eq_zero_iff.mp z1.symm
      subst this
      exact k _ H I hd (Same.refl _) (ex ry e2)
    · subst e
      have : ys = [] := List.length_eq_zero_iff.mp z2.symm
      subst this
      rw [List.append_nil] at k
      exact k _ H I hd (Same.refl _) (ex rx e1)
    · exact k _ _ _ (hd.imm np) (upd_sub (hd.freeI np)) ⟨p, vs ++ ws, rfl, .inl (.inl upd_same), (h2.app h4).mono (upd_sub (hd.freeI np))⟩
  · exact hg.elim
theorem RepL.flat {I : Hp} {xs : List Tr} {vs : List V} (h : RepL K I xs vs) : ∀ n, RepL K I (List.replicate n xs).flatten (List.replicate n vs).flatten
  | 0 => rfl
  | n + 1 => by
    rw [List.replicate_succ, List.replicate_succ, List.flatten_cons, List.flatten_cons]
    exact h.app (RepL.flat h n)
theorem o_mul : OpT K KB.rMl gMul := by
  intro L F H S I x y z v w R hd rx ry hg k
  unfold gMul at hg
  split at hg
  · rename_i i j e1 e2
    cases vw_eq_int hd rx e1
    cases vw_eq_int hd ry e2
    obtain ⟨c, rfl⟩ := hg
    exact .inl ⟨i, j, rfl, rfl, c, k _ H I hd (Same.refl _) rfl⟩
  · rename_i xs n e1 e2
    obtain ⟨a, vs, rfl, h1, h2⟩ := vw_lst hd rx e1
    cases vw_eq_int hd ry e2
    obtain ⟨⟨c1, c2, c3⟩, rfl⟩ := hg
    exact .inr ⟨a, n, vs, rfl, rfl, h1, c1, c2, by rw [h2.len]; exact c3, fun p np => k _ _ _ (hd.imm np) (upd_sub (hd.freeI np)) ⟨p, _, rfl, upd_same, (h2.flat _).mono (upd_sub (hd.freeI np))⟩⟩
  · exact hg.elim
/-! ### == of data -/
mutual
def toD : Tr → Option PyData
  | .non => some .none
  | .bl b => some (.bool b)
  | .int n => some (.int n)
  | .str z => some (.str z)
  | .lst xs => (toDs xs).map .list
  | .tup xs => (toDs xs).map .tuple
  | _ => none
def toDs : List Tr → Option (List PyData)
  | [] => some []
  | x :: xs => match toD x, toDs xs with
    | some d, some ds => some (d :: ds)
    | _, _ => none
end
/-- x == y as the flat ones compare -/
def eqF : Tr → Tr → Option Bool
  | .non, .non => some true
  | .non, .int _ => some false
  | .int _, .non => some false
  | .non, .bl _ => some false
  | .bl _, .non => some false
  | .non, .str _ => some false
  | .str _, .non => some false
  | .int i, .int j => some (decide (i = j))
  | .bl a, .bl b => some (decide (a = b))
  | .str a, .str b => some (decide (a = b))
  | .int _, .str _ => some false
  | .str _, .int _ => some false
  | .bl _, .str _ => some false
  | .str _, .bl _ => some false
  | _, _ => none
def gEq (n : Bool) (x y z : Tr) : Prop := (∃ b, eqF x y = some b ∧ z = .bl (n ^^ b)) ∨ (eqF x y = none ∧ ∃ d e, toD x = some d ∧ toD y = some e ∧ SeqAt.shaped d = true ∧ SeqAt.shaped e = true ∧ z = .bl (n ^^ PyData.eqv d e))
mutual
theorem toD_dp {L : Lk} {F H I : Hp} {S : Sto} (hd : Hd K L F H S I) : ∀ {x : Tr} {d : PyData} {v : V}, toD x = some d → Rep K I x v → Dp K H v d
  | .non, d, v, e, r => by cases e; cases r; exact .non
  | .bl b, d, v, e, r => by cases e; cases r; exact .bl b
  | .int b, d, v, e, r => by cases e; cases r; exact .int b
  | .str b, d, v, e, r => by cases e; cases r; exact .str b
  | .lst xs, d, v, e, r => by
    unfold toD at e
    obtain ⟨ds, e1, rfl⟩ := Option.map_eq_some_iff.mp e
    obtain ⟨a, vs, rfl, h1, h2⟩ := vw_lst (x := .lst xs) hd r rfl
    exact .lst (.inl (.inl h1)) (toDs_dp hd e1 h2)
  | .tup xs, d, v, e, r => by
    unfold toD at e
    obtain ⟨ds, e1, rfl⟩ := Option.map_eq_some_iff.mp e
    obtain ⟨a, vs, rfl, h1, h2⟩ := vw_tup (x := .tup xs) hd r rfl
    exact .tup h1 (toDs_dp hd e1 h2)
theorem toDs_dp {L : Lk} {F H I : Hp} {S : Sto} (hd : Hd K L F H S I) : ∀ {xs : List Tr} {ds : List PyData} {vs : List V}, toDs xs = some ds → RepL K I xs vs → DpAll K H vs ds
  | [], ds, vs, e, r => by cases e; cases r; exact .nil
  | x :: xs, ds, vs, e, r => by
    unfold toDs at e
    split at e
    · rename_i d' ds' e1 e2
      cases e
      obtain ⟨v, ws, rfl, r1, r2⟩ := r
      exact .cons (toD_dp hd e1 r1) (toDs_dp hd e2 r2)
    · cases e
end
theorem toD_vw {L : Lk} {F H I : Hp} {S : Sto} {x : Tr} {d : PyData} {v : V} (hd : Hd K L F H S I) (e : toD (vw S x) = some d) (r : Rep K I x v) : Dp K H v d := by
  rcases vw_cases S x with ⟨e1, _⟩ | ⟨a, c, rfl, ea, e1⟩
  · rw [e1] at e; exact toD_dp hd e r
  · obtain ⟨_, _, o, h1, h2⟩ := hd.cel a _ ea
    rw [e1] at e
    cases r
    cases c with
    | lst xs =>
      unfold toD at e
      obtain ⟨ds, e1, rfl⟩ := Option.map_eq_some_iff.mp e
      obtain ⟨vs, rfl, h2⟩ := h2
      exact .lst (.inl (.inl h1)) (toDs_dp hd e1 h2)
    | _ => first | exact h2.elim | cases e
theorem eqF_scal {L : Lk} {F H I : Hp} {S : Sto} {x y : Tr} {v w : V} {b : Bool} (hd : Hd K L F H S I) (rx : Rep K I x v) (ry : Rep K I y w) (e : eqF (vw S x) (vw S y) = some b) : scal v w = true ∧ decide (v = w) = b := by
  unfold eqF at e
  split at e <;> cases e
  · rename_i e1 e2; cases vw_eq_non hd rx e1; cases vw_eq_non hd ry e2; exact ⟨rfl, rfl⟩
  · rename_i e1 e2; cases vw_eq_non hd rx e1; cases vw_eq_int hd ry e2; exact ⟨rfl, rfl⟩
  · rename_i e1 e2; cases vw_eq_int hd rx e1; cases vw_eq_non hd ry e2; exact ⟨rfl, rfl⟩
  · rename_i e1 e2; cases vw_eq_non hd rx e1; cases vw_eq_bl hd ry e2; exact ⟨rfl, rfl⟩
  · rename_i e1 e2; cases vw_eq_bl hd rx e1; cases vw_eq_non hd ry e2; exact ⟨rfl, rfl⟩
  · rename_i e1 e2; cases vw_eq_non hd rx e1; cases vw_eq_str hd ry e2; exact ⟨rfl, rfl⟩
  · rename_i e1 e2; cases vw_eq_str hd rx e1; cases vw_eq_non hd ry e2; exact ⟨rfl, rfl⟩
  · rename_i i j e1 e2; cases vw_eq_int hd rx e1; cases vw_eq_int hd ry e2; exact ⟨rfl, by simp only [V.int.injEq]⟩
  · rename_i i j e1 e2; cases vw_eq_bl hd rx e1; cases vw_eq_bl hd ry e2; exact ⟨rfl, by simp only [V.bl.injEq]⟩
  · rename_i i j e1 e2; cases vw_eq_str hd rx e1; cases vw_eq_str hd ry e2; exact ⟨rfl, by simp only [V.str.injEq]⟩
  · rename_i e1 e2; cases vw_eq_int hd rx e1; cases vw_eq_str hd ry e2; exact ⟨rfl, rfl⟩
  · rename_i e1 e2; cases vw_eq_str hd rx e1; cases vw_eq_int hd ry e2; exact ⟨rfl, rfl⟩
  · rename_i e1 e2; cases vw_eq_bl hd rx e1; cases vw_eq_str hd ry e2; exact ⟨rfl, rfl⟩
  · rename_i e1 e2; cases vw_eq_str hd rx e1; cases vw_eq_bl hd ry e2; exact ⟨rfl, rfl⟩
def rEq2 (K : PySem.W.Frag) (n : Bool) : R2 := fun x y H Q => (scal x y = true ∧ Q (.bl (n ^^ decide (x = y))) H) ∨ (∃ d e, Dp K H x d ∧ Dp K H y e ∧ SeqAt.shaped d = true ∧ SeqAt.shaped e = true ∧ Q (.bl (n ^^ PyData.eqv d e)) H)
theorem eq_op {k : Nat} (hr : Room k X.A) : OpR X (compareOp .Eq) (rEq2 X.K false) := KB.OpR.wk (OpR.or op_eq (op_eqD hr.units)) fun x y H Q h => by
  rcases h with ⟨hx, q⟩ | ⟨d, e, a, b, c, f, q⟩
  · exact .inl ⟨hx, by simpa using q⟩
  · exact .inr ⟨d, e, a, b, c, f, by simpa using q⟩
theorem ne_op {k : Nat} (hr : Room k X.A) : OpR X (compareOp .NotEq) (rEq2 X.K true) := KB.OpR.wk (OpR.or op_ne (op_neD hr.units)) fun x y H Q h => by
  rcases h with ⟨hx, q⟩ | ⟨d, e, a, b, c, f, q⟩
  · exact .inl ⟨hx, by simpa using q⟩
  · exact .inr ⟨d, e, a, b, c, f, by simpa using q⟩
theorem o_eq {n : Bool} : OpT K (rEq2 K n) (gEq n) := by
  intro L F H S I x y z v w R hd rx ry hg k
  rcases hg with ⟨b, e, rfl⟩ | ⟨_, d, e, e1, e2, s1, s2, rfl⟩
  · obtain ⟨h1, h2⟩ := eqF_scal hd rx ry e
    exact .inl ⟨h1, by rw [h2]; exact k _ H I hd (Same.refl _) rfl⟩
  · exact .inr ⟨d, e, toD_vw hd e1 rx, toD_vw hd e2 ry, s1, s2, k _ H I hd (Same.refl _) rfl⟩
/-! ### is -/
def isKT : Tr → Bool
  | .non => true
  | .bl _ => true
  | _ => false
def isT : Tr → Tr → Bool
  | .non, .non => true
  | .bl a, .bl b => a == b
  | _, _ => false
def gIs (n : Bool) (x y z : Tr) : Prop := isKT y = true ∧ z = .bl (n ^^ isT x y)
theorem vw_kind {L : Lk} {F H I : Hp} {S : Sto} {x : Tr} {v : V} (hd : Hd K L F H S I) (r : Rep K I x v) : (v = .non → vw S x = .non) ∧ (∀ b, v = .bl b → vw S x = .bl b) := by
  rcases vw_cases S x with ⟨e1, _⟩ | ⟨a, c, rfl, ea, e1⟩
  · rw [e1]
    cases x with
    | non => exact ⟨fun _ => rfl, fun b e => (by cases r; cases e)⟩
    | bl b => exact ⟨fun e => (by cases r; cases e), fun b e => (by cases r; cases e; rfl)⟩
    | int n => cases r; exact ⟨fun e => (nomatch e), fun b e => (nomatch e)⟩
    | str n => cases r; exact ⟨fun e => (nomatch e), fun b e => (nomatch e)⟩
    | ty n => cases r; exact ⟨fun e => (nomatch e), fun b e => (nomatch e)⟩
    | ref n => cases r; exact ⟨fun e => (nomatch e), fun b e => (nomatch e)⟩
    | scr ns => obtain ⟨a, rfl, _⟩ := r; exact ⟨fun e => (nomatch e), fun b e => (nomatch e)⟩
    | exc a d c fs xs => obtain ⟨rfl, _⟩ := r; exact ⟨fun e => (nomatch e), fun b e => (nomatch e)⟩
    | lst xs => obtain ⟨a, vs, rfl, _⟩ := r; exact ⟨fun e => (nomatch e), fun b e => (nomatch e)⟩
    | tup xs => obtain ⟨a, vs, rfl, _⟩ := r; exact ⟨fun e => (nomatch e), fun b e => (nomatch e)⟩
    | dic ks xs => obtain ⟨a, vs, rfl, _⟩ := r; exact ⟨fun e => (nomatch e), fun b e => (nomatch e)⟩
    | ins C fs xs => obtain ⟨a, dx, vs, rfl, _⟩ := r; exact ⟨fun e => (nomatch e), fun b e => (nomatch e)⟩
    | opq q => obtain ⟨a, rfl, _⟩ := r; exact ⟨fun e => (nomatch e), fun b e => (nomatch e)⟩
    | sem c => obtain ⟨a, o, rfl, _⟩ := r; exact ⟨fun e => (nomatch e), fun b e => (nomatch e)⟩
  · cases r
    exact ⟨fun e => (nomatch e), fun b e => (nomatch e)⟩
theorem o_is {n : Bool} : OpT K (KB.rIs n) (gIs n) := by
  intro L F H S I x y z v w R hd rx ry hg k
  obtain ⟨hk, rfl⟩ := hg
  unfold isKT at hk
  split at hk
  · rename_i e2
    cases vw_eq_non hd ry e2
    refine ⟨rfl, ?_⟩
    have e : decide (v = V.non) = isT (vw S x) (vw S y) := by
      rw [e2]
      by_cases h : v = .non
      · rw [decide_eq_true h, (vw_kind hd rx).1 h]; rfl
      · rw [decide_eq_false h]
        cases z : vw S x <;> first | rfl | exact absurd (vw_eq_non hd rx z) h
    rw [e]
    exact k _ H I hd (Same.refl _) rfl
  · rename_i b e2
    cases vw_eq_bl hd ry e2
    refine ⟨rfl, ?_⟩
    have e : decide (v = V.bl b) = isT (vw S x) (vw S y) := by
      rw [e2]
      by_cases h : v = .bl b
      · rw [decide_eq_true h, (vw_kind hd rx).2 b h]
        show true = (b == b)
        cases b <;> rfl
      · rw [decide_eq_false h]
        cases z : vw S x with
        | bl c =>
          have := vw_eq_bl hd rx z
          show false = (c == b)
          symm
          rw [beq_eq_false_iff_ne]
          intro hc
          subst hc
          exact h this
        | _ => rfl
    rw [e]
    exact k _ H I hd (Same.refl _) rfl
  · cases hk
/-! ### in -/
def flatT : Tr → Option V
  | .non => some .non
  | .bl b => some (.bl b)
  | .int n => some (.int n)
  | .str z => some (.str z)
  | _ => none
def flatTs : List Tr → Option (List V)
  | [] => some []
  | x :: xs => match flatT x, flatTs xs with
    | some v, some vs => some (v :: vs)
    | _, _ => none
def hasK (k : Key) (ks : List Key) : Bool := ks.any fun j => decide (j = k)
theorem hasK_iff {k : Key} {ks : List Key} : hasK k ks = true ↔ k ∈ ks := by
  unfold hasK
  rw [List.any_eq_true]
  exact ⟨fun ⟨j, h, e⟩ => of_decide_eq_true e ▸ h, fun h => ⟨k, h, decide_eq_true rfl⟩⟩
def keyT : Tr → Option Key
  | .int n => some (.inl n)
  | .str z => some (.inr z)
  | _ => none
def gIn (n : Bool) (x y z : Tr) : Prop := match y with
  | .str t => ∃ c, x = .str ⟨#[c]⟩ ∧ z = .bl (n ^^ decide (c ∈ t.cps.toList))
  | .lst ys => ∃ v vs, flatT x = some v ∧ flatTs ys = some vs ∧ z = .bl (n ^^ inV v vs)
  | .tup ys => ∃ v vs, flatT x = some v ∧ flatTs ys = some vs ∧ z = .bl (n ^^ inV v vs)
  | .dic ks xs => ∃ k, keyT x = some k ∧ z = .bl (n ^^ hasK k ks)
  | _ => False
theorem flatT_rep {L : Lk} {F H I : Hp} {S : Sto} {x : Tr} {v u : V} (hd : Hd K L F H S I) (r : Rep K I x u) (e : flatT (vw S x) = some v) : u = v ∧ flatV v = true := by
  cases z : vw S x with
  | non => rw [z] at e; cases e; exact ⟨vw_eq_non hd r z, rfl⟩
  | bl b => rw [z] at e; cases e; exact ⟨vw_eq_bl hd r z, rfl⟩
  | int b => rw [z] at e; cases e; exact ⟨vw_eq_int hd r z, rfl⟩
  | str b => rw [z] at e; cases e; exact ⟨vw_eq_str hd r z, rfl⟩
  | _ => rw [z] at e; cases e
theorem flatT_rep0 {I : Hp} {x : Tr} {v u : V} (r : Rep K I x u) (e : flatT x = some v) : u = v ∧ flatV v = true := by
  cases x with
  | non => cases e; exact ⟨r, rfl⟩
  | bl b => cases e; exact ⟨r, rfl⟩
  | int b => cases e; exact ⟨r, rfl⟩
  | str b => cases e; exact ⟨r, rfl⟩
  | _ => cases e
theorem flatTs_rep {I : Hp} : ∀ {xs : List Tr} {vs us : List V}, RepL K I xs us → flatTs xs = some vs → us = vs ∧ vs.all flatV = true
  | [], vs, us, r, e => by cases e; cases r; exact ⟨rfl, rfl⟩
  | x :: xs, vs, us, r, e => by
    unfold flatTs at e
    split at e
    · rename_i v vs' e1 e2
      cases e
      obtain ⟨u, ws, rfl, r1, r2⟩ := r
      obtain ⟨rfl, h1⟩ := flatT_rep0 r1 e1
      obtain ⟨rfl, h2⟩ := flatTs_rep r2 e2
      exact ⟨rfl, by simp [h1, h2]⟩
    · cases e
theorem keyT_rep {L : Lk} {F H I : Hp} {S : Sto} {x : Tr} {v : V} {k : Key} (hd : Hd K L F H S I) (r : Rep K I x v) (e : keyT (vw S x) = some k) : v = kV k := by
  cases z : vw S x with
  | int b => rw [z] at e; cases e; exact vw_eq_int hd r z
  | str b => rw [z] at e; cases e; exact vw_eq_str hd r z
  | _ => rw [z] at e; cases e
/-- the value of a key -/
def kget (k : Key) : List Key → List Tr → Option Tr
  | j :: ks, x :: xs => if k = j then some x else kget k ks xs
  | _, _ => none
theorem kget_val {I : Hp} {k : Key} : ∀ {ks : List Key} {xs : List Tr} {vs : List V}, ks.length = xs.length → RepL K I xs vs → (∀ x, kget k ks xs = some x → ∃ v, valV (ks.zip vs) k = some v ∧ Rep K I x v) ∧ ((valV (ks.zip vs) k).isSome = hasK k ks)
  | [], [], vs, _, r => by cases r; exact ⟨fun x e => (nomatch e), rfl⟩
  | [], _ :: _, vs, e, r => nomatch e
  | _ :: _, [], vs, e, r => nomatch e
  | j :: ks, y :: xs, vs, e, r => by
    obtain ⟨v, ws, rfl, r1, r2⟩ := r
    have ih := kget_val (k := k) (ks := ks) (by simpa using e) r2
    by_cases h : k = j
    · subst h
      have z : valV ((k :: ks).zip (v :: ws)) k = some v := by simp [valV, List.find?]
      exact ⟨fun x e => by simp [kget] at e; subst e; exact ⟨v, z, r1⟩, by rw [z]; simp [hasK]⟩
    · have z : valV ((j :: ks).zip (v :: ws)) k = valV (ks.zip ws) k := by simp [valV, List.find?, Ne.symm h]
      rw [z]
      exact ⟨fun x e => ih.1 x (by simpa [kget, h] using e), by rw [ih.2]; simp [hasK, Ne.symm h]⟩
def rIn2 (K : PySem.W.Frag) (n : Bool) : R2 := fun x y H Q => (∃ (c : Nat) (z : Str), x = .str ⟨#[c]⟩ ∧ y = .str z ∧ Q (.bl (n ^^ decide (c ∈ z.cps.toList))) H) ∨
  (∃ p xs, y = .ref p ∧ (SqL K H p xs ∨ SqT K H p xs) ∧ flatV x = true ∧ xs.all flatV = true ∧ Q (.bl (n ^^ inV x xs)) H) ∨ (∃ a o, y = .ref a ∧ DGet H a x o ∧ Q (.bl (n ^^ o.isSome)) H)
theorem in_op {k : Nat} (hr : Room k X.A) : OpR X (compareOp .In) (rIn2 X.K false) := by
  intro pins s σ H x y v u Q I rx ry h
  rcases h with ⟨c, z, rfl, rfl, q⟩ | ⟨p, xs, rfl, hp, a, b, q⟩ | ⟨a, o, rfl, g, q⟩
  · exact op_in_sign pins s σ H _ _ v u Q I rx ry ⟨c, z, rfl, rfl, by simpa using q⟩
  · exact op_in_seq pins s σ H _ _ v u Q I rx ry ⟨p, xs, rfl, hp, a, b, by simpa using q⟩
  · cases ry
    exact d_in (hu_of hr) I g rx fun s3 I3 => ⟨.bl o.isSome, H, I3, rfl, by simpa using q⟩
theorem notin_op {k : Nat} (hr : Room k X.A) : OpR X (compareOp .NotIn) (rIn2 X.K true) := by
  intro pins s σ H x y v u Q I rx ry h
  rcases h with ⟨c, z, rfl, rfl, q⟩ | ⟨p, xs, rfl, hp, a, b, q⟩ | ⟨a, o, rfl, g, q⟩
  · exact op_notIn_sign pins s σ H _ _ v u Q I rx ry ⟨c, z, rfl, rfl, by simpa using q⟩
  · exact op_notIn_seq pins s σ H _ _ v u Q I rx ry ⟨p, xs, rfl, hp, a, b, by simpa using q⟩
  · cases ry
    exact d_notIn (hu_of hr) I g rx fun s3 I3 => ⟨.bl (!o.isSome), H, I3, rfl, by simpa using q⟩
theorem o_in {n : Bool} : OpT K (rIn2 K n) (gIn n) := by
  intro L F H S I x y z v w R hd rx ry hg k
  unfold gIn at hg
  split at hg
  · rename_i t e2
    obtain ⟨c, e1, rfl⟩ := hg
    cases vw_eq_str hd rx e1
    cases vw_eq_str hd ry e2
    exact .inl ⟨c, t, rfl, rfl, k _ H I hd (Same.refl _) rfl⟩
  · rename_i ys e2
    obtain ⟨u, us, e1, e3, rfl⟩ := hg
    obtain ⟨a, vs, rfl, h1, h2⟩ := vw_lst hd ry e2
    obtain ⟨rfl, f1⟩ := flatT_rep hd rx e1
    obtain ⟨rfl, f2⟩ := flatTs_rep h2 e3
    exact .inr (.inl ⟨a, vs, rfl, .inl (.inl (.inl h1)), f1, f2, k _ H I hd (Same.refl _) rfl⟩)
  · rename_i ys e2
    obtain ⟨u, us, e1, e3, rfl⟩ := hg
    obtain ⟨a, vs, rfl, h1, h2⟩ := vw_tup hd ry e2
    obtain ⟨rfl, f1⟩ := flatT_rep hd rx e1
    obtain ⟨rfl, f2⟩ := flatTs_rep h2 e3
    exact .inr (.inl ⟨a, vs, rfl, .inr h1, f1, f2, k _ H I hd (Same.refl _) rfl⟩)
  · rename_i ks xs e2
    obtain ⟨key, e1, rfl⟩ := hg
    obtain ⟨a, vs, rfl, h1, hl, h2⟩ := vw_dic hd ry e2
    cases keyT_rep hd rx e1
    exact .inr (.inr ⟨a, _, rfl, .inl ⟨_, key, h1, rfl, rfl⟩, by rw [(kget_val hl h2).2]; exact k _ H I hd (Same.refl _) rfl⟩)
  · exact hg.elim
/-! ### x[i] -/
def gIx (x y z : Tr) : Prop := match x with
  | .str t => t.length ≤ sizeLine ∧ ∃ i c, y = .int i ∧ atI t.cps.toList i = some c ∧ z = .str ⟨#[c]⟩
  | .lst xs => ∃ i, y = .int i ∧ atI xs i = some z
  | .scr ns => ∃ i, y = .int i ∧ ∃ n, atI ns i = some n ∧ z = .int n
  | .tup xs => ∃ i, y = .int i ∧ atI xs i = some z
  | .dic ks xs => ∃ k, keyT y = some k ∧ kget k ks xs = some z
  | _ => False
def rIx2 (K : PySem.W.Frag) : R2 := fun x y H Q => rIxL K x y H Q ∨ rIxT K x y H Q ∨ rIxS x y H Q ∨ (∃ a v, x = .ref a ∧ DGet H a y (some v) ∧ Q v H)
theorem ix_op {k : Nat} (hr : Room k X.A) : IxR X (rIx2 X.K) := by
  intro value slice pins s σ H x y v u Q I rx ry h hs
  rcases h with h | h | h | ⟨a, z, rfl, g, q⟩
  · exact ix_list value slice pins s σ H x y v u Q I rx ry h hs
  · exact ix_tup value slice pins s σ H x y v u Q I rx ry h hs
  · exact ix_str value slice pins s σ H x y v u Q I rx ry h hs
  · cases rx
    have hT := dict_typeIs I g
    have fin : wpAny (model X.prog X.w) X.A (subscripted slice false (Value.ref a) u) (fun r s3 => wpAny (model X.prog X.w) X.A (letTemporaryGo value (Value.ref a) r >>= fun _ => pure r) (EP X pins σ Q) X.xe s3) X.xe s := by
      rw [hs]
      exact wpAny_operating (d_getItem (hu_of hr) I g ry fun w' s3 I3 rw' => wpAny_bind (wpAny_letTemporaryGo (wpAny_pure ⟨z, H, I3, rw', q⟩)))
    unfold subscriptTail
    rw [getitemInPython_of_ne hT.not_modules]
    refine wpAny_bind (wpAny_bind (wpAny_specialOf hT PySem.F.slot_dict_getitem.lookup ?_))
    first | exact wpAny_pure (wpAny_bind fin) | exact wpAny_bind (wpAny_pure (wpAny_bind fin)) | exact wpAny_bind fin
theorem atI_rep {I : Hp} {xs : List Tr} {vs : List V} {i : Int} {x : Tr} (r : RepL K I xs vs) (e : atI xs i = some x) : ∃ v, atI vs i = some v ∧ Rep K I x v := by
  unfold atI at e ⊢
  rw [r.len]
  obtain ⟨j, e1, e2⟩ := Option.bind_eq_some_iff.mp e
  obtain ⟨v, e3, r3⟩ := r.get' e2
  exact ⟨v, by rw [e1]; exact e3, r3⟩
theorem o_ix : OpT K (rIx2 K) gIx := by
  intro L F H S I x y z v w R hd rx ry hg k
  unfold gIx at hg
  split at hg
  · rename_i t e1
    obtain ⟨hl, i, c, e2, ha, rfl⟩ := hg
    cases vw_eq_str hd rx e1
    cases vw_eq_int hd ry e2
    exact .inr (.inr (.inl ⟨t, i, c, rfl, rfl, hl, ha, k _ H I hd (Same.refl _) rfl⟩))
  · rename_i xs e1
    obtain ⟨i, e2, ha⟩ := hg
    obtain ⟨a, vs, rfl, h1, h2⟩ := vw_lst hd rx e1
    cases vw_eq_int hd ry e2
    obtain ⟨u, ha, r⟩ := atI_rep h2 ha
    exact .inl ⟨a, vs, i, u, rfl, rfl, .inl (.inl h1), ha, k _ H I hd (Same.refl _) r⟩
  · rename_i ns e1
    obtain ⟨i, e2, n, ha, rfl⟩ := hg
    obtain ⟨a, rfl, h1⟩ := vw_scr hd rx e1
    cases vw_eq_int hd ry e2
    refine .inl ⟨a, _, i, .int n, rfl, rfl, h1, ?_, k _ H I hd (Same.refl _) rfl⟩
    unfold atI at ha ⊢
    obtain ⟨j, e3, e4⟩ := Option.bind_eq_some_iff.mp ha
    rw [List.length_map, e3]
    show (ns.map V.int)[j]? = _
    rw [List.getElem?_map, e4]; rfl
  · rename_i xs e1
    obtain ⟨i, e2, ha⟩ := hg
    obtain ⟨a, vs, rfl, h1, h2⟩ := vw_tup hd rx e1
    cases vw_eq_int hd ry e2
    obtain ⟨u, ha, r⟩ := atI_rep h2 ha
    exact .inr (.inl ⟨a, vs, i, u, rfl, rfl, h1, ha, k _ H I hd (Same.refl _) r⟩)
  · rename_i ks xs e1
    obtain ⟨key, e2, ha⟩ := hg
    obtain ⟨a, vs, rfl, h1, hl, h2⟩ := vw_dic hd rx e1
    cases keyT_rep hd ry e2
    obtain ⟨u, ha, r⟩ := (kget_val hl h2).1 z ha
    exact .inr (.inr (.inr ⟨a, u, rfl, .inl ⟨_, key, h1, rfl, ha.symm⟩, k _ H I hd (Same.refl _) r⟩))
  · exact hg.elim
end
end KQ
namespace KQ
open PySem PySem.Spec PyProof.Rows L2 TL KB
section
variable {K : PySem.W.Frag} {X : Cx} {W : WX}
/-! ### unary minus -/
def gNeg (x z : Tr) : Prop := match x with
  | .int i => z = .int (-i)
  | _ => False
theorem u_neg : UnT K (rU fun i => .int (-i)) gNeg := by
  intro L F H S I x z v R hd rx hg k
  unfold gNeg at hg
  split at hg
  · rename_i i e
    cases vw_eq_int hd rx e
    subst hg
    exact ⟨i, rfl, k _ H I hd (Same.refl _) rfl⟩
  · exact hg.elim
/-! ### slices -/
structure TPO (X : Cx) (W : WX) (e : Option Expr) (t : Rho → Sto → (Option Int → Sto → Prop) → QX → Prop) : Prop where
  pe : PO X e (fun σ H R => ∃ L F S I ρ, Hd X.K L F H S I ∧ Slots X.K I σ ρ ∧ t ρ S (fun o S' => ∀ H' I', Hd X.K L F H' S' I' → Same I I' → R o H') (dnX X.K L F I W σ))
  mono : ∀ ρ S (Q Q' : Option Int → Sto → Prop) X X', (∀ y S, Q y S → Q' y S) → XLe X X' → t ρ S Q X → t ρ S Q' X'
def uPart (te : UE) : Rho → Sto → (Option Int → Sto → Prop) → QX → Prop := fun ρ S Q X => te ρ S (fun x S1 => ∃ i, vw S1 x = .int i ∧ Q (some i) S1) X
def uNoPart : Rho → Sto → (Option Int → Sto → Prop) → QX → Prop := fun ρ S Q X => Q none S
theorem wkO {e : Option Expr} {t t' : TO} (h : PO X e t) (w : ∀ σ H Q, t' σ H Q → t σ H Q) : PO X e t' := ⟨fun pins s σ H Q I q => h.run pins s σ H Q I (w _ _ _ q)⟩
theorem o_some {e : Expr} {te : UE} (he : TPE X W e te) : TPO X W (some e) (uPart te) :=
  ⟨wkO (po_some he.pe) fun σ H R ⟨L, F, S, I, ρ, hd, sl, h⟩ => lE_then he.mono hd sl h (fun _ _ _ _ h => h) fun x S1 v H1 I1 ⟨i, e, q⟩ hd1 s1 sl1 r => ⟨i, vw_eq_int hd1 r e, q H1 I1 hd1 s1⟩,
    fun ρ S Q Q' X X' hQ hX h => he.mono _ _ _ _ _ _ (fun x S1 ⟨i, e, q⟩ => ⟨i, e, hQ _ _ q⟩) hX h⟩
theorem o_none : TPO X W none uNoPart :=
  ⟨wkO po_none fun σ H R ⟨L, F, S, I, ρ, hd, sl, h⟩ => h H I hd (Same.refl _), fun ρ S Q Q' X X' hQ hX h => hQ _ _ h⟩
def cutT (xs : List Tr) (lo hi : Option Int) : List Tr := (xs.drop (HT.sIx xs.length 0 lo)).take (HT.sIx xs.length xs.length hi - HT.sIx xs.length 0 lo)
def gSl (x : Tr) (lo hi : Option Int) (z : Tr) : Prop := match x with
  | .str t => t.length ≤ sizeLine ∧ z = .str (cutS t lo hi)
  | .lst xs => z = .lst (cutT xs lo hi)
  | .scr ns => z = .lst (cutT (ns.map Tr.int) lo hi)
  | .tup xs => z = .tup (cutT xs lo hi)
  | _ => False
def rSl3 (K : PySem.W.Frag) : V → Option Int → Option Int → Hp → VK → Prop := fun x lo hi H Q => (∃ z, x = .str z ∧ z.length ≤ sizeLine ∧ Q (.str (cutS z lo hi)) H) ∨ (∃ a xs, x = .ref a ∧ SqL K H a xs ∧ ∀ p, H p = none → Q (.ref p) (upd H p (.lst (cutV xs lo hi)))) ∨ L2.rSlA K x lo hi H Q
theorem sl_op : SlR X (rSl3 X.K) := by
  refine KB.SlR.wk (SlR.or sl_str (SlR.or sl_list sl_tupA)) fun x a b H Q h => ?_
  rcases h with h | h | h
  · exact .inl h
  · exact .inr (.inl h)
  · exact .inr (.inr h)
theorem cut_rep {I : Hp} {xs : List Tr} {vs : List V} (r : RepL K I xs vs) (lo hi : Option Int) : RepL K I (cutT xs lo hi) (cutV vs lo hi) := by
  unfold cutT cutV
  rw [r.len]
  exact (r.drop _).take _
def uSl (te : UE) (tl th : Rho → Sto → (Option Int → Sto → Prop) → QX → Prop) : UE := fun ρ S Q X => te ρ S (fun x S1 => tl ρ S1 (fun l S2 => th ρ S2 (fun u S3 => ∃ z, gSl (vw S3 x) l u z ∧ Q z S3) X) X) X
theorem e_slice {e : Expr} {lo hi : Option Expr} {te : UE} {tl th : Rho → Sto → (Option Int → Sto → Prop) → QX → Prop} {p2 pos : Pos} (he : TPE X W e te) (hl : TPO X W lo tl) (hu : TPO X W hi th) : TPE X W (.Subscript e (.Slice lo hi none p2) pos) (uSl te tl th) :=
  ⟨wkE (pe_slice sl_op he.pe hl.pe hu.pe) fun σ H R ⟨L, F, S, I, ρ, hd, sl, h⟩ => lE_then he.mono hd sl h (fun _ _ _ _ h => h) fun x S1 v H1 I1 q hd1 s1 sl1 r => by
    refine ⟨L, F, S1, I1, ρ, hd1, sl1, hl.mono _ _ _ _ _ _ (fun l S2 q2 H2 I2 hd2 s2 => ?_) (dnX_up s1) q⟩
    refine ⟨L, F, S2, I2, ρ, hd2, sl1.mono s2, hu.mono _ _ _ _ _ _ (fun u S3 q3 H3 I3 hd3 s3 => ?_) (dnX_up (s1.trans s2)) q2⟩
    obtain ⟨z, hg, q⟩ := q3
    have r3 := r.mono (s2.trans s3)
    have sm := (s1.trans s2).trans s3
    unfold gSl at hg
    split at hg
    · rename_i t e
      cases vw_eq_str hd3 r3 e
      obtain ⟨c, rfl⟩ := hg
      exact .inl ⟨t, rfl, c, q _ H3 I3 hd3 sm rfl⟩
    · rename_i xs e
      obtain ⟨a, vs, rfl, h1, h2⟩ := vw_lst hd3 r3 e
      subst hg
      exact .inr (.inl ⟨a, vs, rfl, .inl (.inl h1), fun p np => q _ _ _ (hd3.imm np) (sm.trans (upd_sub (hd3.freeI np))) ⟨p, _, rfl, upd_same, (cut_rep h2 l u).mono (upd_sub (hd3.freeI np))⟩⟩)
    · rename_i ns e
      obtain ⟨a, rfl, h1⟩ := vw_scr hd3 r3 e
      subst hg
      exact .inr (.inl ⟨a, _, rfl, h1, fun p np => q _ _ _ (hd3.imm np) (sm.trans (upd_sub (hd3.freeI np))) ⟨p, _, rfl, upd_same, (cut_rep (RepL.ints ns) l u).mono (upd_sub (hd3.freeI np))⟩⟩)
    · rename_i xs e
      obtain ⟨a, vs, e1, h1, h2⟩ := vw_tup hd3 r3 e
      subst e1
      subst hg
      refine .inr (.inr ⟨a, vs, rfl, h1, fun hw => ?_, fun hw p np => ?_⟩)
      · have ez : cutT xs l u = xs := by
          rw [h2.len] at hw
          unfold cutT
          rw [hw.1, hw.2, List.drop_zero, Nat.sub_zero, List.take_length]
        rw [ez] at q
        refine q _ H3 I3 hd3 sm ?_
        rcases vw_cases S3 x with ⟨e1, _⟩ | ⟨b, c, rfl, ea, e1⟩
        · rw [e1] at e; subst e; exact r3
        · obtain ⟨_, _, o, _, z⟩ := hd3.cel b _ ea
          rw [e1] at e; subst e; exact z.elim
      · exact q _ _ _ (hd3.imm np) (sm.trans (upd_sub (hd3.freeI np))) ⟨p, _, rfl, .inl (.inl upd_same), (cut_rep h2 l u).mono (upd_sub (hd3.freeI np))⟩
    · exact hg.elim, fun ρ S Q Q' X X' hQ hX h => he.mono _ _ _ _ _ _ (fun x S1 q => hl.mono _ _ _ _ _ _ (fun l S2 q => hu.mono _ _ _ _ _ _ (fun u S3 ⟨z, hg, q⟩ => ⟨z, hg, hQ _ _ q⟩) hX q) hX q) hX h⟩
/-! ### built-ins -/
def gLen (xs : List Tr) (z : Tr) : Prop := match xs with
  | [.str t] => t.length ≤ sizeLine ∧ z = .int t.length
  | [.lst ys] => z = .int ys.length
  | [.scr ys] => z = .int ys.length
  | [.tup ys] => z = .int ys.length
  | [.dic ks ys] => z = .int ks.length
  | _ => False
theorem RepL.one {I : Hp} {x : Tr} {vs : List V} (r : RepL K I [x] vs) : ∃ v, vs = [v] ∧ Rep K I x v := by
  obtain ⟨v, ws, rfl, r1, r2⟩ := r
  cases r2
  exact ⟨v, rfl, r1⟩
theorem RepL.two {I : Hp} {x y : Tr} {vs : List V} (r : RepL K I [x, y] vs) : ∃ v w, vs = [v, w] ∧ Rep K I x v ∧ Rep K I y w := by
  obtain ⟨v, ws, rfl, r1, r2⟩ := r
  obtain ⟨w, rfl, r3⟩ := RepL.one r2
  exact ⟨v, w, rfl, r1, r3⟩
theorem map1 {S : Sto} {xs : List Tr} {y : Tr} (e : xs.map (vw S) = [y]) : ∃ x, xs = [x] ∧ vw S x = y := by
  cases xs with
  | nil => cases e
  | cons x r => cases r with
    | nil => cases e; exact ⟨x, rfl, rfl⟩
    | cons a b => cases e
theorem map2 {S : Sto} {xs : List Tr} {y z : Tr} (e : xs.map (vw S) = [y, z]) : ∃ x w, xs = [x, w] ∧ vw S x = y ∧ vw S w = z := by
  cases xs with
  | nil => cases e
  | cons x r =>
    rw [List.map_cons] at e
    injection e with e1 e2
    obtain ⟨w, rfl, e3⟩ := map1 e2
    exact ⟨x, w, rfl, e1, e3⟩
def rLen2 (K : PySem.W.Frag) : List V → Hp → VK → Prop := fun vs H Q => (∃ z, vs = [.str z] ∧ z.length ≤ sizeLine ∧ Q (.int z.length) H) ∨ (∃ p ys, vs = [.ref p] ∧ (SqL K H p ys ∨ SqT K H p ys) ∧ Q (.int ys.length) H) ∨ (∃ p kvs, vs = [.ref p] ∧ Rd H p (.dK kvs) ∧ Q (.int kvs.length) H)
theorem len_dR : CallR X (.builtin "len") (fun xs H Q => ∃ a kvs, xs = [V.ref a] ∧ Rd H a (.dK kvs) ∧ Q (.int kvs.length) H) := by
  intro pins s σ H xs us Q I r h
  obtain ⟨a, kvs, rfl, ha, q⟩ := h
  obtain ⟨u, rfl, ru⟩ := vals1 r
  cases ru
  exact d_len I ha fun t s' I' => ⟨.int kvs.length, H, I', ⟨t, rfl⟩, q⟩
theorem len_op : CallR X (.builtin "len") (rLen2 X.K) := by
  refine KB.CallR.wk (KB.CallR.or call_len_str (KB.CallR.or call_len_seq len_dR)) fun vs H Q h => ?_
  rcases h with h | h | h
  · exact .inl h
  · exact .inr (.inl h)
  · exact .inr (.inr h)
theorem c_len : CallT K (rLen2 K) gLen := by
  intro L F H S I xs z vs R hd r hg k
  unfold gLen at hg
  split at hg
  · rename_i t e0
    obtain ⟨x, rfl, e⟩ := map1 e0
    obtain ⟨v, rfl, r1⟩ := RepL.one r
    cases vw_eq_str hd r1 e
    obtain ⟨c, rfl⟩ := hg
    exact .inl ⟨t, rfl, c, k _ H I hd (Same.refl _) rfl⟩
  · rename_i ys e0
    obtain ⟨x, rfl, e⟩ := map1 e0
    obtain ⟨v, rfl, r1⟩ := RepL.one r
    obtain ⟨a, us, rfl, h1, h2⟩ := vw_lst hd r1 e
    subst hg
    exact .inr (.inl ⟨a, us, rfl, .inl (.inl (.inl h1)), by rw [h2.len]; exact k _ H I hd (Same.refl _) rfl⟩)
  · rename_i ys e0
    obtain ⟨x, rfl, e⟩ := map1 e0
    obtain ⟨v, rfl, r1⟩ := RepL.one r
    obtain ⟨a, rfl, h1⟩ := vw_scr hd r1 e
    subst hg
    exact .inr (.inl ⟨a, _, rfl, .inl h1, by rw [List.length_map]; exact k _ H I hd (Same.refl _) rfl⟩)
  · rename_i ys e0
    obtain ⟨x, rfl, e⟩ := map1 e0
    obtain ⟨v, rfl, r1⟩ := RepL.one r
    obtain ⟨a, us, rfl, h1, h2⟩ := vw_tup hd r1 e
    subst hg
    exact .inr (.inl ⟨a, us, rfl, .inr h1, by rw [h2.len]; exact k _ H I hd (Same.refl _) rfl⟩)
  · rename_i ks ys e0
    obtain ⟨x, rfl, e⟩ := map1 e0
    obtain ⟨v, rfl, r1⟩ := RepL.one r
    obtain ⟨a, us, rfl, h1, hl, h2⟩ := vw_dic hd r1 e
    subst hg
    refine .inr (.inr ⟨a, _, rfl, h1, ?_⟩)
    have : (ks.zip us).length = ks.length := by rw [List.length_zip, h2.len]; omega
    rw [this]
    exact k _ H I hd (Same.refl _) rfl
  · exact hg.elim
def gAbs (xs : List Tr) (z : Tr) : Prop := match xs with
  | [.int i] => z = .int i.natAbs
  | _ => False
theorem c_abs : CallT K (fun xs H Q => ∃ i, xs = [.int i] ∧ Q (.int (if i < 0 then -i else i)) H) gAbs := by
  intro L F H S I xs z vs R hd r hg k
  unfold gAbs at hg
  split at hg
  · rename_i i e0
    obtain ⟨x, rfl, e⟩ := map1 e0
    obtain ⟨v, rfl, r1⟩ := RepL.one r
    cases vw_eq_int hd r1 e
    subst hg
    exact ⟨i, rfl, by rw [KB.abs_nat]; exact k _ H I hd (Same.refl _) rfl⟩
  · exact hg.elim
def gInt (xs : List Tr) (z : Tr) : Prop := match xs with
  | [.int i] => z = .int i
  | [.bl b] => z = .int (if b then 1 else 0)
  | [.str a] => ∃ n, PySem.intText? a = some n ∧ a.length ≤ 640 ∧ z = .int n
  | _ => False
theorem c_int : CallT K KB.rIntA gInt := by
  intro L F H S I xs z vs R hd r hg k
  unfold gInt at hg
  split at hg
  · rename_i i e0
    obtain ⟨x, rfl, e⟩ := map1 e0
    obtain ⟨v, rfl, r1⟩ := RepL.one r
    cases vw_eq_int hd r1 e
    subst hg
    exact .inl ⟨i, rfl, k _ H I hd (Same.refl _) rfl⟩
  · rename_i i e0
    obtain ⟨x, rfl, e⟩ := map1 e0
    obtain ⟨v, rfl, r1⟩ := RepL.one r
    cases vw_eq_bl hd r1 e
    subst hg
    exact .inr (.inl ⟨i, rfl, k _ H I hd (Same.refl _) rfl⟩)
  · rename_i i e0
    obtain ⟨x, rfl, e⟩ := map1 e0
    obtain ⟨v, rfl, r1⟩ := RepL.one r
    cases vw_eq_str hd r1 e
    obtain ⟨n, h1, h2, rfl⟩ := hg
    exact .inr (.inr ⟨i, n, rfl, h1, h2, k _ H I hd (Same.refl _) rfl⟩)
  · exact hg.elim
def gStr (xs : List Tr) (z : Tr) : Prop := match xs with
  | [.int i] => i.natAbs.log2 < 1920 ∧ z = .str (Str.ofString (toString i))
  | [.str a] => z = .str a
  | _ => False
theorem c_str : CallT K KB.rStrA gStr := by
  intro L F H S I xs z vs R hd r hg k
  unfold gStr at hg
  split at hg
  · rename_i i e0
    obtain ⟨x, rfl, e⟩ := map1 e0
    obtain ⟨v, rfl, r1⟩ := RepL.one r
    cases vw_eq_int hd r1 e
    obtain ⟨c, rfl⟩ := hg
    exact .inl ⟨i, rfl, c, k _ H I hd (Same.refl _) rfl⟩
  · rename_i i e0
    obtain ⟨x, rfl, e⟩ := map1 e0
    obtain ⟨v, rfl, r1⟩ := RepL.one r
    cases vw_eq_str hd r1 e
    subst hg
    exact .inr ⟨i, rfl, k _ H I hd (Same.refl _) rfl⟩
  · exact hg.elim
def gMM (f : Int → Int → Int) (xs : List Tr) (z : Tr) : Prop := match xs with
  | [.int i, .int j] => z = .int (f i j)
  | _ => False
/-- list(x), tuple(x) -/
def gList (xs : List Tr) (z : Tr) : Prop := match xs with
  | [.lst ys] => z = .lst ys
  | [.scr ns] => z = .lst (ns.map Tr.int)
  | [.tup ys] => z = .lst ys
  | _ => False
theorem c_list : CallT K (fun xs H Q => ∃ p ys, xs = [.ref p] ∧ (SqL K H p ys ∨ SqT K H p ys) ∧ ∀ l, H l = none → Q (.ref l) (upd H l (.lst ys))) gList := by
  intro L F H S I xs z vs R hd r hg k
  have fin : ∀ (p : Addr) (ys : List Tr) (us : List V), z = .lst ys → RepL K I ys us → (SqL K H p us ∨ SqT K H p us) → ∃ p' ys, [V.ref p] = [.ref p'] ∧ (SqL K H p' ys ∨ SqT K H p' ys) ∧ ∀ l, H l = none → R (.ref l) (upd H l (.lst ys)) := fun p ys us e h q => by
    subst e
    exact ⟨p, us, rfl, q, fun l nl => k _ _ _ (hd.imm nl) (upd_sub (hd.freeI nl)) ⟨l, us, rfl, upd_same, h.mono (upd_sub (hd.freeI nl))⟩⟩
  unfold gList at hg
  split at hg
  · rename_i ys e0
    obtain ⟨x, rfl, e⟩ := map1 e0
    obtain ⟨v, rfl, r1⟩ := RepL.one r
    obtain ⟨a, us, rfl, h1, h2⟩ := vw_lst hd r1 e
    exact fin a ys us hg h2 (.inl (.inl (.inl h1)))
  · rename_i ys e0
    obtain ⟨x, rfl, e⟩ := map1 e0
    obtain ⟨v, rfl, r1⟩ := RepL.one r
    obtain ⟨a, rfl, h1⟩ := vw_scr hd r1 e
    exact fin a _ _ hg (RepL.ints ys) (.inl h1)
  · rename_i ys e0
    obtain ⟨x, rfl, e⟩ := map1 e0
    obtain ⟨v, rfl, r1⟩ := RepL.one r
    obtain ⟨a, us, rfl, h1, h2⟩ := vw_tup hd r1 e
    exact fin a ys us hg h2 (.inr h1)
  · exact hg.elim
def gTuple (xs : List Tr) (z : Tr) : Prop := match xs with
  | [.lst ys] => z = .tup ys
  | [.tup ys] => z = .tup ys
  | _ => False
theorem c_tuple : CallT K (fun xs H Q => ∃ p ys, xs = [.ref p] ∧ ((SqL K H p ys ∧ ∀ l, H l = none → Q (.ref l) (upd H l (.tup ys))) ∨ (SqT K H p ys ∧ Q (.ref p) H))) gTuple := by
  intro L F H S I xs z vs R hd r hg k
  unfold gTuple at hg
  split at hg
  · rename_i ys e0
    obtain ⟨x, rfl, e⟩ := map1 e0
    obtain ⟨v, rfl, r1⟩ := RepL.one r
    obtain ⟨a, us, rfl, h1, h2⟩ := vw_lst hd r1 e
    subst hg
    exact ⟨a, us, rfl, .inl ⟨.inl (.inl h1), fun l nl => k _ _ _ (hd.imm nl) (upd_sub (hd.freeI nl)) ⟨l, us, rfl, .inl (.inl upd_same), h2.mono (upd_sub (hd.freeI nl))⟩⟩⟩
  · rename_i ys e0
    obtain ⟨x, rfl, e⟩ := map1 e0
    obtain ⟨v, rfl, r1⟩ := RepL.one r
    obtain ⟨a, us, e1, h1, h2⟩ := vw_tup hd r1 e
    subst e1
    subst hg
    refine ⟨a, us, rfl, .inr ⟨h1, k _ H I hd (Same.refl _) ?_⟩⟩
    rcases vw_cases S x with ⟨e1, _⟩ | ⟨b, c, rfl, ea, e1⟩
    · rw [e1] at e; subst e; exact r1
    · obtain ⟨_, _, o, _, q⟩ := hd.cel b _ ea
      rw [e1] at e; subst e; exact q.elim
  · exact hg.elim
/-! ### isinstance -/
/-- what an own class must have that its instances are looked at -/
structure ClsI (K : PySem.W.Frag) (C : Addr) : Prop where
  cl : Cls K C
  ha : PySem.W.findIn K (.ref C) "__class__" = some (some (.builtin "object.__class__"))
  hn : PySem.W.specialIn K (.builtin "object.__class__") "__get__" = some (some (.builtin "getset_descriptor.__get__"))
  ht : PySem.W.takesIn K (.builtin "object.__class__") = some true
  hm : PySem.W.mroIn K C (.type "object") = some true
def tyT (K : PySem.W.Frag) (x : Tr) (t : Value) : Prop := match x with
  | .non => t = .type "NoneType"
  | .bl _ => t = .type "bool"
  | .int _ => t = .type "int"
  | .str _ => t = .type "str"
  | .lst _ => t = .type "list"
  | .scr _ => t = .type "list"
  | .tup _ => t = .type "tuple"
  | .dic _ _ => t = .type "dict"
  | .ins C _ _ => ClsI K C ∧ t = .ref C
  | _ => False
def clsT (c : Tr) (u : Value) : Prop := match c with
  | .ty n => u = .type n
  | .ref C => u = .ref C
  | _ => False
theorem sqL_ty {H : Hp} {a : Addr} {vs : List V} (h : SqL K H a vs) : TyX K H (.ref a) (.type "list") := by
  rcases h with (h | ⟨o, h⟩) | ⟨o, its, n, h1, h2, _⟩
  · exact .base (.lst h)
  · exact .base (.frz h)
  · exact .kList h1 h2
theorem sqT_ty {H : Hp} {a : Addr} {vs : List V} (h : SqT K H a vs) : TyX K H (.ref a) (.type "tuple") := by
  rcases h with (h | ⟨o, h⟩) | ⟨o, its, n, h1, h2, _⟩
  · exact .base (.tup h)
  · exact .fTuple h
  · exact .kTuple h1 h2
theorem tyT_ty {L : Lk} {F H I : Hp} {S : Sto} {x : Tr} {v : V} {t : Value} (hd : Hd K L F H S I) (r : Rep K I x v) (e : tyT K (vw S x) t) : TyX K H v t := by
  unfold tyT at e
  split at e
  · rename_i z; cases vw_eq_non hd r z; subst e; exact .base .non
  · rename_i z; cases vw_eq_bl hd r z; subst e; exact .base (.bl _)
  · rename_i z; cases vw_eq_int hd r z; subst e; exact .base (.int _)
  · rename_i z; cases vw_eq_str hd r z; subst e; exact .base (.str _)
  · rename_i z; obtain ⟨a, vs, rfl, h1, _⟩ := vw_lst hd r z; subst e; exact .base (.lst h1)
  · rename_i z; obtain ⟨a, rfl, h1⟩ := vw_scr hd r z; subst e; exact sqL_ty h1
  · rename_i z; obtain ⟨a, vs, rfl, h1, _⟩ := vw_tup hd r z; subst e; exact sqT_ty h1
  · rename_i z
    obtain ⟨a, vs, rfl, h1, _⟩ := vw_dic hd r z
    subst e
    rcases h1 with h1 | ⟨o, h1⟩
    · exact .base (.dK h1)
    · exact .fDict h1
  · rename_i z
    obtain ⟨a, dx, vs, rfl, h1, _⟩ := vw_ins hd r z
    obtain ⟨c, rfl⟩ := e
    exact .base (.ins h1 c.cl c.ha c.hn c.ht c.hm)
  · exact e.elim
theorem clsT_cls {L : Lk} {F H I : Hp} {S : Sto} {x : Tr} {v : V} {u : Value} (hd : Hd K L F H S I) (r : Rep K I x v) (e : clsT (vw S x) u) : ClsV v u := by
  unfold clsT at e
  split at e
  · rename_i n z; cases vw_eq_ty hd r z; subst e; exact .ty n
  · rename_i n z; cases vw_eq_ref hd r z; subst e; exact .own n
  · exact e.elim
/-- isinstance(x, c) -/
def gIsi (K : PySem.W.Frag) (xs : List Tr) (z : Tr) : Prop := match xs with
  | [x, c] => ∃ t u b, tyT K x t ∧ clsT c u ∧ PySem.W.kitOne K t u = some b ∧ z = .bl b
  | _ => False
theorem c_isi : CallT K (rIsi K) (gIsi K) := by
  intro L F H S I xs z vs R hd r hg k
  unfold gIsi at hg
  split at hg
  · rename_i x0 c e
    obtain ⟨x, y, rfl, e1, e2⟩ := map2 e
    obtain ⟨v, w, rfl, r1, r2⟩ := RepL.two r
    obtain ⟨t, u, b, h1, h2, h3, rfl⟩ := hg
    rw [← e1] at h1
    rw [← e2] at h2
    exact ⟨v, w, t, u, b, rfl, clsT_cls hd r2 h2, tyT_ty hd r1 h1, h3, k _ H I hd (Same.refl _) rfl⟩
  · exact hg.elim
/-- isinstance(x, (c, d)) -/
def uIsi2 (K : PySem.W.Frag) (u w : Value) (te : UE) : UE := fun ρ S Q X => te ρ S (fun x S1 => ∃ t b e, tyT K (vw S1 x) t ∧ PySem.W.kitOne K t u = some b ∧ PySem.W.kitOne K t w = some e ∧ Q (.bl (b || e)) S1) X
end
end KQ
namespace KQ
open PySem PySem.Spec PyProof.Rows L2 TL KB
/-! ### range, texts, enumerate -/
section
variable {X : Cx} {W : WX} {tg e : Expr} {te : UE} {ta : UA} {p pos : Pos}
def rngT (lo : Int) : Nat → List Tr
  | 0 => []
  | n + 1 => .int lo :: rngT (lo + 1) n
theorem rngT_len : ∀ (n : Nat) (lo : Int), (rngT lo n).length = n
  | 0, _ => rfl
  | n + 1, lo => by show (rngT (lo + 1) n).length + 1 = _; rw [rngT_len n]
theorem rngT_get : ∀ (n : Nat) (lo : Int) (i : Nat), i < n → (rngT lo n)[i]? = some (.int (lo + i))
  | 0, _, _, h => absurd h (Nat.not_lt_zero _)
  | n + 1, lo, 0, _ => by show some (Tr.int lo) = some (.int (lo + ((0 : Nat) : Int))); rw [Int.natCast_zero, Int.add_zero]
  | n + 1, lo, i + 1, h => by
    show (rngT (lo + 1) n)[i]? = _
    rw [rngT_get n (lo + 1) i (by omega)]
    congr 2
    omega
def uRng1 (ta : UA) : UI := fun ρ S R X => ta ρ S (fun xs S1 => ∃ j, xs = [.int j] ∧ (-(2 ^ 62) ≤ j ∧ j < 2 ^ 62) ∧ R ⟨rngT 0 j.toNat, fun _ => True⟩ S1) X
def uRng2 (ta : UA) : UI := fun ρ S R X => ta ρ S (fun xs S1 => ∃ i j, xs = [.int i, .int j] ∧ (-(2 ^ 62) ≤ i ∧ i < 2 ^ 62 ∧ -(2 ^ 62) ≤ j ∧ j < 2 ^ 62) ∧ R ⟨rngT i (j - i).toNat, fun _ => True⟩ S1) X
theorem it_rng {K : PySem.W.Frag} {L : Lk} {I : Hp} (lo : Int) (n : Nat) : ItRep K L I (Itr lo n) ⟨rngT lo n, fun _ => True⟩ where
  go := fun F i H S I' _ _ _ h => by show i < n; rw [← rngT_len n lo]; exact h
  stop := fun F i H S I' _ _ _ h => by show n ≤ i; rw [← rngT_len n lo]; exact Nat.le_of_eq h.symm
  yld := fun F i H S I' v H' x hd _ _ e y => by
    obtain ⟨rfl, rfl⟩ := y
    have hi : i < n := by
      by_cases z : i < n
      · exact z
      · rw [List.getElem?_eq_none (by rw [rngT_len]; omega)] at e; cases e
    rw [rngT_get n lo i hi] at e
    cases e
    exact ⟨I', hd, Same.refl _, rfl⟩
theorem i_rng1 {a : Expr} (hg : Gl X "range") (hm : X.mg "range" = none) (ha : TPA X W [a] ta) (hs : starEach [a] X.env = [(false, eval a X.env)] := by rfl) : TPI X W tg (.Call (.Name "range" p) [a] [] pos) (uRng1 ta) :=
  ⟨wkI (pi_range1 hg hm ha.pe hs) fun σ H R ⟨L, F, S, I, ρ, hd, sl, h⟩ => lA_then ha.mono hd sl h (fun _ _ _ _ h => h) fun xs S1 vs H1 I1 ⟨j, e, c, q⟩ hd1 s1 sl1 r => by
    subst e
    obtain ⟨v, rfl, r1⟩ := RepL.one r
    cases r1
    exact ⟨j, rfl, c.1, c.2, q _ H1 I1 hd1 s1 (it_rng 0 _)⟩, fun ρ S Q Q' X X' hQ hX h => ha.mono _ _ _ _ _ _ (fun xs S1 ⟨j, e, c, q⟩ => ⟨j, e, c, hQ _ _ q⟩) hX h⟩
def sgnT (c : Nat) : Tr := .str ⟨#[c]⟩
def uStrI (te : UE) : UI := fun ρ S R X => te ρ S (fun x S1 => ∃ z, vw S1 x = .str z ∧ R ⟨z.cps.toList.map sgnT, fun _ => True⟩ S1) X
theorem i_str (he : TPE X W e te) : TPI X W tg e (uStrI te) :=
  ⟨wkI (pi_str he.pe) fun σ H R ⟨L, F, S, I, ρ, hd, sl, h⟩ => lE_then he.mono hd sl h (fun _ _ _ _ h => h) fun x S1 v H1 I1 ⟨z, e, q⟩ hd1 s1 sl1 r => by
    cases vw_eq_str hd1 r e
    have el : (z.cps.toList.map sgnT).length = z.cps.size := by simp
    refine ⟨z, rfl, q _ H1 I1 hd1 s1 ⟨fun F i H S I' _ _ _ h => by show i < _; rw [← el]; exact h, fun F i H S I' _ _ _ h => by show z.cps.size ≤ i; rw [← el]; exact Nat.le_of_eq h.symm, fun F i H S I' v H' x hd _ _ e y => ?_⟩⟩
    obtain ⟨rfl, c, ec, rfl⟩ := y
    rw [List.getElem?_map, Array.getElem?_toList, ec] at e
    cases e
    exact ⟨I', hd, Same.refl _, rfl⟩, fun ρ S Q Q' X X' hQ hX h => he.mono _ _ _ _ _ _ (fun xs S1 ⟨z, e, q⟩ => ⟨z, e, hQ _ _ q⟩) hX h⟩
def enumT : Nat → List Tr → List Tr
  | _, [] => []
  | n, x :: xs => .tup [.int n, x] :: enumT (n + 1) xs
/-- enumerate(x), x a list -/
def uEnum (ta : UA) : UI := fun ρ S R X => ta ρ S (fun ys S1 => ∃ x xs, ys = [x] ∧ asL (vw S1 x) = some xs ∧ R ⟨enumT 0 xs, fun S' => vw S' x = vw S1 x⟩ S1) X
end
/-! ### fields -/
def fget (f : Str) : List Str → List Tr → Option Tr
  | g :: gs, x :: xs => if f = g then some x else fget f gs xs
  | _, _ => none
theorem fget_lk {K : PySem.W.Frag} {I : Hp} {f : Str} : ∀ {fs : List Str} {xs : List Tr} {vs : List V} {x : Tr}, RepL K I xs vs → fget f fs xs = some x → ∃ v, (fs.zip vs).lookup f = some v ∧ Rep K I x v
  | [], _, _, _, _, e => by simp [fget] at e
  | _ :: _, [], _, _, _, e => by simp [fget] at e
  | g :: gs, y :: xs, vs, x, r, e => by
    obtain ⟨v, ws, rfl, r1, r2⟩ := r
    by_cases h : f = g
    · subst h
      rw [fget, if_pos rfl] at e
      cases e
      exact ⟨v, by simp [List.lookup], r1⟩
    · rw [fget, if_neg h] at e
      obtain ⟨w, e1, r3⟩ := fget_lk r2 e
      refine ⟨w, ?_, r3⟩
      have hb : (f == g) = false := by simpa using h
      rw [List.zip_cons_cons, List.lookup_cons, hb]
      exact e1
/-- the class at C has no attribute f of its own -/
structure ClsF (K : PySem.W.Frag) (C : Addr) (f : Str) : Prop where
  cl : Cls K C
  no : NoAttr K C f
def uFld (K : PySem.W.Frag) (f : Str) (te : UE) : UE := fun ρ S Q X => te ρ S (fun x S1 => ∃ C fs xs y, vw S1 x = .ins C fs xs ∧ ClsF K C f ∧ fget f fs xs = some y ∧ Q y S1) X
/-- a new value of a field: the names, the values -/
def fputN (f : Str) : List Str → List Str
  | [] => [f]
  | g :: gs => if g = f then g :: gs else g :: fputN f gs
def fputX (f : Str) (y : Tr) : List Str → List Tr → List Tr
  | g :: gs, x :: xs => if g = f then y :: xs else x :: fputX f y gs xs
  | _, _ => [y]
section
variable {X : Cx} {W : WX} {o e : Expr} {te to : UE} {pos p' : Pos} {f : Str}
theorem mono_fld {K : PySem.W.Frag} (m : MonoE te) : MonoE (uFld K f te) := fun ρ S Q Q' X X' hQ hX h => m _ _ _ _ _ _ (fun x S1 ⟨C, fs, xs, y, e, c, g, q⟩ => ⟨C, fs, xs, y, e, c, g, hQ _ _ q⟩) hX h
theorem e_fld (he : TPE X W e te) (hb : attributeBase e f X.env (eval e X.env) = eval e X.env) : TPE X W (.Attribute e f pos) (uFld X.K f te) :=
  ⟨wkE (pe_fld he.pe hb) fun σ H R ⟨L, F, S, I, ρ, hd, sl, h⟩ => lE_then he.mono hd sl h (fun _ _ _ _ h => h) fun x S1 v H1 I1 ⟨C, fs, xs, y, e, c, g, q⟩ hd1 s1 sl1 r => by
    obtain ⟨a, dx, vs, rfl, h1, hl, h2⟩ := vw_ins hd1 r e
    obtain ⟨w, e1, r1⟩ := fget_lk h2 g
    exact ⟨a, C, dx, _, w, rfl, h1, c.cl, c.no, e1, q w H1 I1 hd1 s1 r1⟩, mono_fld he.mono⟩
theorem fput_rep {K : PySem.W.Frag} {I : Hp} {y : Tr} {w : V} (ry : Rep K I y w) : ∀ {fs : List Str} {xs : List Tr} {vs : List V}, fs.length = xs.length → RepL K I xs vs → ∃ ws, putF f w (fs.zip vs) = (fputN f fs).zip ws ∧ (fputN f fs).length = (fputX f y fs xs).length ∧ RepL K I (fputX f y fs xs) ws
  | [], [], vs, _, r => by cases r; exact ⟨[w], rfl, rfl, .cons ry rfl⟩
  | [], _ :: _, _, e, _ => nomatch e
  | _ :: _, [], _, e, _ => nomatch e
  | g :: gs, x :: xs, vs, e, r => by
    obtain ⟨v, us, rfl, r1, r2⟩ := r
    have el : gs.length = xs.length := by simpa using e
    by_cases h : g = f
    · subst h
      refine ⟨w :: us, by simp [putF, fputN], by simp [fputN, fputX, el], ?_⟩
      simp only [fputX, if_true]
      exact .cons ry r2
    · obtain ⟨ws, h1, h2, h3⟩ := fput_rep ry el r2
      refine ⟨v :: ws, ?_, by simp [fputN, fputX, h, h2], ?_⟩
      · simp [putF, fputN, h, h1]
      · simp only [fputX, if_neg h]
        exact .cons r1 h3
/-- o.f = e, o a cell -/
def uSFld (K : PySem.W.Frag) (f : Str) (to te : UE) : US := fun D X ρ S => te ρ S (fun y S1 => to ρ S1 (fun x S2 => ∃ a C fs xs, x = .ref a ∧ S2 a = some (.ins C fs xs) ∧ ClsF K C f ∧ fs.length < 1000 ∧ D.nx ρ (put S2 a (.ins C (fputN f fs) (fputX f y fs xs)))) (atR X ρ)) (atR X ρ)
theorem s_fld (ho : TPE X W o to) (he : TPE X W e te) (hs : swapsWith e (some (.Attribute o f p')) pos.line X.env = pure false) : TPS X W (.Assign [.Attribute o f p'] e pos) (uSFld X.K f to te) :=
  ⟨wkS (ps_fld ho.pe he.pe hs) fun D σ H ⟨L, F, S, I, ρ, hd, sl, h⟩ => lE_then he.mono hd sl h (dnXS_at sl) fun y S1 w H1 I1 q hd1 s1 sl1 ry =>
    lE_then ho.mono hd1 sl1 q (fun c f x S' z => dnXS_at sl1 _ _ _ _ (dnXS_up s1 _ _ _ _ _ z)) fun x S2 v H2 I2 ⟨a, C, fs, xs, e, ea, c, hl, q⟩ hd2 s2 sl2 rx => by
      subst e
      cases rx
      obtain ⟨_, _, o, ho, dx, vs, rfl, el, rl⟩ := hd2.cel a _ ea
      obtain ⟨ws, h1, h2, h3⟩ := fput_rep (f := f) (ry.mono s2) el rl
      refine ⟨a, C, dx, _, rfl, ho, c.cl, c.no, by rw [List.length_zip]; omega, ?_⟩
      rw [h1]
      exact q σ _ I2 (hd2.mut ea ⟨dx, ws, rfl, h2, h3⟩) (s1.trans s2) sl2, fun D D' X X' ρ S hD hX h => he.mono _ _ _ _ _ _ (fun y S1 q => ho.mono _ _ _ _ _ _ (fun x S2 ⟨a, C, fs, xs, e, ea, c, hl, q⟩ => ⟨a, C, fs, xs, e, ea, c, hl, hD.1 _ _ q⟩) (fun _ _ _ _ z => hX _ _ _ _ _ z) q) (fun _ _ _ _ z => hX _ _ _ _ _ z) h⟩
/-! ### d[k] = e -/
def kputN (k : Key) (ks : List Key) : List Key := if hasK k ks = true then ks else ks ++ [k]
def kmap (k : Key) (y : Tr) : List Key → List Tr → List Tr
  | j :: js, x :: xs => (if j = k then y else x) :: kmap k y js xs
  | _, xs => xs
def kputX (k : Key) (y : Tr) (ks : List Key) (xs : List Tr) : List Tr := if hasK k ks = true then kmap k y ks xs else xs ++ [y]
theorem kmap_rep {K : PySem.W.Frag} {I : Hp} {y : Tr} {w : V} {k : Key} (ry : Rep K I y w) : ∀ {ks : List Key} {xs : List Tr} {vs : List V}, ks.length = xs.length → RepL K I xs vs → ∃ ws, (ks.zip vs).map (fun kv => if kv.1 = k then (kv.1, w) else kv) = ks.zip ws ∧ (kmap k y ks xs).length = xs.length ∧ RepL K I (kmap k y ks xs) ws
  | [], [], vs, _, r => by cases r; exact ⟨[], rfl, rfl, rfl⟩
  | [], _ :: _, _, e, _ => nomatch e
  | _ :: _, [], _, e, _ => nomatch e
  | j :: js, x :: xs, vs, e, r => by
    obtain ⟨v, us, rfl, r1, r2⟩ := r
    obtain ⟨ws, h1, h2, h3⟩ := kmap_rep (k := k) ry (ks := js) (by simpa using e) r2
    by_cases h : j = k
    · refine ⟨w :: ws, by simp [h, h1], by simp [kmap, h2], ?_⟩
      simp only [kmap, if_pos h]
      exact .cons ry h3
    · refine ⟨v :: ws, by simp [h, h1], by simp [kmap, h2], ?_⟩
      simp only [kmap, if_neg h]
      exact .cons r1 h3
theorem hasK_zip {k : Key} : ∀ {ks : List Key} {vs : List V}, ks.length = vs.length → (ks.zip vs).any (fun kv => decide (kv.1 = k)) = hasK k ks
  | [], [], _ => rfl
  | [], _ :: _, e => nomatch e
  | _ :: _, [], e => nomatch e
  | j :: js, v :: vs, e => by
    rw [List.zip_cons_cons, List.any_cons, hasK_zip (by simpa using e)]
    rfl
theorem zip_snoc {α β : Type} : ∀ {ks : List α} {vs : List β} {k : α} {v : β}, ks.length = vs.length → ks.zip vs ++ [(k, v)] = (ks ++ [k]).zip (vs ++ [v])
  | [], [], _, _, _ => rfl
  | [], _ :: _, _, _, e => nomatch e
  | _ :: _, [], _, _, e => nomatch e
  | j :: js, u :: us, k, v, e => by
    simp only [List.zip_cons_cons, List.cons_append]
    rw [zip_snoc (by simpa using e)]
theorem kput_rep {K : PySem.W.Frag} {I : Hp} {y : Tr} {w : V} {k : Key} {ks : List Key} {xs : List Tr} {vs : List V} (ry : Rep K I y w) (e : ks.length = xs.length) (r : RepL K I xs vs) : ∃ ws, putK (ks.zip vs) k w = (kputN k ks).zip ws ∧ (kputN k ks).length = (kputX k y ks xs).length ∧ RepL K I (kputX k y ks xs) ws := by
  have el : ks.length = vs.length := by rw [r.len]; exact e
  unfold putK kputN kputX
  rw [hasK_zip el]
  by_cases h : hasK k ks = true
  · obtain ⟨ws, h1, h2, h3⟩ := kmap_rep (k := k) ry e r
    rw [if_pos h, if_pos h, if_pos h]
    exact ⟨ws, h1, by rw [h2]; exact e, h3⟩
  · rw [if_neg h, if_neg h, if_neg h]
    exact ⟨vs ++ [w], zip_snoc el, by simp [e], r.app (.cons ry rfl)⟩
variable {i : Expr} {ti : UE}
def uDPut (to ti te : UE) : US := fun D X ρ S => te ρ S (fun y S1 => to ρ S1 (fun x S2 => ti ρ S2 (fun j S3 => ∃ a ks xs k, x = .ref a ∧ S3 a = some (.dic ks xs) ∧ keyT (vw S3 j) = some k ∧ ks.length < sizeLine ∧ D.nx ρ (put S3 a (.dic (kputN k ks) (kputX k y ks xs)))) (atR X ρ)) (atR X ρ)) (atR X ρ)
theorem s_dput (hu : X.A.units + 1 < cLine) (ho : TPE X W o to) (hi : TPE X W i ti) (he : TPE X W e te) (hs : swapsWith e (some (.Subscript o i p')) pos.line X.env = pure false) : TPS X W (.Assign [.Subscript o i p'] e pos) (uDPut to ti te) :=
  ⟨wkS (ps_dput hu ho.pe hi.pe he.pe hs) fun D σ H ⟨L, F, S, I, ρ, hd, sl, h⟩ => lE_then he.mono hd sl h (dnXS_at sl) fun y S1 w H1 I1 q hd1 s1 sl1 ry =>
    lE_then ho.mono hd1 sl1 q (fun c f x S' z => dnXS_at sl1 _ _ _ _ (dnXS_up s1 _ _ _ _ _ z)) fun x S2 v H2 I2 q hd2 s2 sl2 rx =>
    lE_then hi.mono hd2 sl2 q (fun c f x S' z => dnXS_at sl2 _ _ _ _ (dnXS_up (s1.trans s2) _ _ _ _ _ z)) fun j S3 u H3 I3 ⟨a, ks, xs, k, e, ea, ek, hl, q9⟩ hd3 s3 sl3 rj => by
      subst e
      cases rx
      cases keyT_rep hd3 rj ek
      obtain ⟨_, _, o, ho, vs, rfl, el, rl⟩ := hd3.cel a _ ea
      obtain ⟨ws, h1, h2, h3⟩ := kput_rep (k := k) (ry.mono (s2.trans s3)) el rl
      refine ⟨a, _, rfl, .inl ⟨_, k, ho, rfl, by rw [List.length_zip]; omega, rfl⟩, ?_⟩
      rw [h1]
      exact q9 σ _ I3 (hd3.mut ea ⟨ws, rfl, h2, h3⟩) ((s1.trans s2).trans s3) sl3,
    fun D D' X X' ρ S hD hX h => he.mono _ _ _ _ _ _ (fun y S1 q => ho.mono _ _ _ _ _ _ (fun x S2 q => hi.mono _ _ _ _ _ _ (fun j S3 ⟨a, ks, xs, k, e, ea, ek, hl, q⟩ => ⟨a, ks, xs, k, e, ea, ek, hl, hD.1 _ _ q⟩) (fun _ _ _ _ z => hX _ _ _ _ _ z) q) (fun _ _ _ _ z => hX _ _ _ _ _ z) q) (fun _ _ _ _ z => hX _ _ _ _ _ z) h⟩
/-- xs[i] = e, xs a cell -/
def uLPut (to ti te : UE) : US := fun D X ρ S => te ρ S (fun y S1 => to ρ S1 (fun x S2 => ti ρ S2 (fun j S3 => ∃ a xs n k, x = .ref a ∧ S3 a = some (.lst xs) ∧ vw S3 j = .int n ∧ ixN xs.length n = some k ∧ D.nx ρ (put S3 a (.lst (xs.set k y)))) (atR X ρ)) (atR X ρ)) (atR X ρ)
end
end KQ
namespace KQ
open PySem PySem.Spec PyProof.Rows L2 TL KB
/-! ### a slot's cells become trees -/
section
variable {X : Cx} {W : WX} {rest : List Stmt} {u : US}
theorem Slots.retree {K : PySem.W.Frag} {I I' : Hp} {σ : L2.St} {ρ : Rho} {i : Nat} {x y : Tr} (h : Slots K I σ ρ) (s : Same I I') (e : ρ[i]? = some (some x)) (k : ∀ v, Rep K I x v → Rep K I' y v) : Slots K I' σ (ρ.set i (some y)) := by
  refine ⟨by rw [List.length_set]; exact h.1, fun j z ez => ?_⟩
  by_cases hj : i = j
  · subst hj
    have hl : i < ρ.length := (List.getElem?_eq_some_iff.mp e).1
    rw [List.getElem?_set_self hl] at ez
    cases ez
    obtain ⟨v, e1, r⟩ := h.2 i x e
    exact ⟨v, e1, k v r⟩
  · rw [List.getElem?_set_ne hj] at ez
    exact (h.mono s).2 j z ez
def uFrz (i : Nat) (u : US) : US := fun D X ρ S => ∃ (x y : Tr) (S' : Sto), ρ[i]? = some (some x) ∧ Frz x S y S' ∧ u D X (ρ.set i (some y)) S'
theorem ss_frz {i : Nat} (h : TPSs X W rest u) : TPSs X W rest (uFrz i u) :=
  ⟨wkSs h.pe fun D σ H ⟨L, F, S, I, ρ, hd, sl, x, y, S', e, ⟨G, r, s, g⟩, q⟩ => lS_then h.mono (hd.thawed g s) (sl.retree (thaw_same hd g) e (r.rep hd g).1) q (dnD_up (thaw_same hd g)) (dnXS_up (thaw_same hd g)),
    fun D D' X X' ρ S hD hX ⟨x, y, S', e, f, q⟩ => ⟨x, y, S', e, f, h.mono _ _ _ _ _ _ hD hX q⟩⟩
end
/-! ### methods of lists and texts -/
section
variable {X : Cx} {W : WX} {o e : Expr} {es : List Expr} {to : UE} {ta : UA} {apos cpos : Pos} {id : String} {name : Str}
def tyOk (T : String) (x : Tr) : Prop := match x with
  | .str _ => T = "str"
  | .lst _ => T = "list"
  | .scr _ => T = "list"
  | _ => False
theorem tyOk_ty {K : PySem.W.Frag} {L : Lk} {F H I : Hp} {S : Sto} {T : String} {x : Tr} {v : V} (hd : Hd K L F H S I) (r : Rep K I x v) (h : tyOk T (vw S x)) : tyV K T v H := by
  unfold tyOk at h
  split at h
  · rename_i z e; cases vw_eq_str hd r e; exact h
  · rename_i z e; obtain ⟨a, vs, rfl, h1, _⟩ := vw_lst hd r e; exact .inl ⟨h, vs, .inl (.inl h1)⟩
  · rename_i z e; obtain ⟨a, rfl, h1⟩ := vw_scr hd r e; exact .inl ⟨h, _, h1⟩
  · exact h.elim
/-- a method that reads -/
def uMt (T : String) (g : Tr → List Tr → Tr → Prop) (to : UE) (ta : UA) : UE := fun ρ S Q X => to ρ S (fun x S1 => tyOk T (vw S1 x) ∧ ta ρ S1 (fun ys S2 => ∃ z, g (vw S2 x) (ys.map (vw S2)) z ∧ Q z S2) X) X
def MtT (K : PySem.W.Frag) (r : V → List V → Hp → VK → Prop) (g : Tr → List Tr → Tr → Prop) : Prop := ∀ {L : Lk} {F H : Hp} {S : Sto} {I : Hp} {x : Tr} {ys : List Tr} {z : Tr} {v : V} {vs : List V} {R : VK}, Hd K L F H S I → Rep K I x v → RepL K I ys vs → g (vw S x) (ys.map (vw S)) z →
  (∀ v' H' I', Hd K L F H' S I' → Same I I' → Rep K I' z v' → R v' H') → r v vs H R
theorem mono_mt {T : String} {g : Tr → List Tr → Tr → Prop} (mo : MonoE to) (ma : MonoA ta) : MonoE (uMt T g to ta) := fun ρ S Q Q' X X' hQ hX h => mo _ _ _ _ _ _ (fun x S1 ⟨c, q⟩ => ⟨c, ma _ _ _ _ _ _ (fun ys S2 ⟨z, hg, q⟩ => ⟨z, hg, hQ _ _ q⟩) hX q⟩) hX h
theorem e_mt {T : String} {r : V → List V → Hp → VK → Prop} {g : Tr → List Tr → Tr → Prop} (pa : PlainAttrs T) (slot : Slot T name id) (hty : typeOf (.builtin id) = pure (.type "method_descriptor")) (hm : MtR X id r) (s : MtT X.K r g) (ho : TPE X W o to) (ha : TPA X W (e :: es) ta)
    (hb : PE X o (lE X.K W to) → PA X (e :: es) (lA X.K W ta) → PE X (.Call (.Attribute o name apos) (e :: es) [] cpos) (tBM X.K T r (lE X.K W to) (lA X.K W ta))) : TPE X W (.Call (.Attribute o name apos) (e :: es) [] cpos) (uMt T g to ta) :=
  ⟨wkE (hb ho.pe ha.pe) fun σ H R ⟨L, F, S, I, ρ, hd, sl, h⟩ => lE_then ho.mono hd sl h (fun _ _ _ _ h => h) fun x S1 v H1 I1 ⟨c, q⟩ hd1 s1 sl1 rx => ⟨tyOk_ty hd1 rx c, lA_then ha.mono hd1 sl1 q (dnX_up s1) fun ys S2 vs H2 I2 ⟨z, hg, q⟩ hd2 s2 sl2 ry =>
    s hd2 (rx.mono s2) ry hg fun v' H' I' hd' s' r' => q v' H' I' hd' ((s1.trans s2).trans s') r'⟩, mono_mt ho.mono ha.mono⟩
theorem e_mt0 {T : String} {r : V → List V → Hp → VK → Prop} {g : Tr → List Tr → Tr → Prop} (s : MtT X.K r g) (ho : TPE X W o to) (hb : PE X o (lE X.K W to) → PE X (.Call (.Attribute o name apos) [] [] cpos) (tBM0 X.K T r (lE X.K W to))) : TPE X W (.Call (.Attribute o name apos) [] [] cpos) (uMt T g to uNil) :=
  ⟨wkE (hb ho.pe) fun σ H R ⟨L, F, S, I, ρ, hd, sl, h⟩ => lE_then ho.mono hd sl h (fun _ _ _ _ h => h) fun x S1 v H1 I1 ⟨c, z, hg, q⟩ hd1 s1 sl1 rx => ⟨tyOk_ty hd1 rx c,
    s hd1 rx (ys := []) rfl hg fun v' H' I' hd' s' r' => q v' H' I' hd' (s1.trans s') r'⟩, mono_mt ho.mono (a_nil (X := X) (W := W)).mono⟩
/-- a method that changes a list -/
def uMm (g : Sto → List Tr → List Tr → List Tr → Tr → Prop) (to : UE) (ta : UA) : UE := fun ρ S Q X => to ρ S (fun x S1 => tyOk "list" (vw S1 x) ∧ ta ρ S1 (fun ys S2 => ∃ a xs xs' z, x = .ref a ∧ S2 a = some (.lst xs) ∧ g S2 xs ys xs' z ∧ Q z (put S2 a (.lst xs'))) X) X
def MmT (K : PySem.W.Frag) (r : V → List V → Hp → VK → Prop) (g : Sto → List Tr → List Tr → List Tr → Tr → Prop) : Prop := ∀ {L : Lk} {F H : Hp} {S : Sto} {I : Hp} {a : Addr} {xs ys xs' : List Tr} {z : Tr} {vs : List V} {R : VK}, Hd K L F H S I → S a = some (.lst xs) → RepL K I ys vs → g S xs ys xs' z →
  (∀ v' H', Hd K L F H' (put S a (.lst xs')) I → Rep K I z v' → R v' H') → r (.ref a) vs H R
theorem mono_mm {g : Sto → List Tr → List Tr → List Tr → Tr → Prop} (mo : MonoE to) (ma : MonoA ta) : MonoE (uMm g to ta) := fun ρ S Q Q' X X' hQ hX h => mo _ _ _ _ _ _ (fun x S1 ⟨c, q⟩ => ⟨c, ma _ _ _ _ _ _ (fun ys S2 ⟨a, xs, xs', z, e, ea, hg, q⟩ => ⟨a, xs, xs', z, e, ea, hg, hQ _ _ q⟩) hX q⟩) hX h
theorem e_mm {r : V → List V → Hp → VK → Prop} {g : Sto → List Tr → List Tr → List Tr → Tr → Prop} (s : MmT X.K r g) (ho : TPE X W o to) (ha : TPA X W (e :: es) ta)
    (hb : PE X o (lE X.K W to) → PA X (e :: es) (lA X.K W ta) → PE X (.Call (.Attribute o name apos) (e :: es) [] cpos) (tBM X.K "list" r (lE X.K W to) (lA X.K W ta))) : TPE X W (.Call (.Attribute o name apos) (e :: es) [] cpos) (uMm g to ta) :=
  ⟨wkE (hb ho.pe ha.pe) fun σ H R ⟨L, F, S, I, ρ, hd, sl, h⟩ => lE_then ho.mono hd sl h (fun _ _ _ _ h => h) fun x S1 v H1 I1 ⟨c, q⟩ hd1 s1 sl1 rx => ⟨tyOk_ty hd1 rx c, lA_then ha.mono hd1 sl1 q (dnX_up s1) fun ys S2 vs H2 I2 ⟨a, xs, xs', z, e, ea, hg, q9⟩ hd2 s2 sl2 ry => by
    subst e
    cases rx
    exact s hd2 ea ry hg fun v' H' hd' r' => q9 v' H' I2 hd' (s1.trans s2) r'⟩, mono_mm ho.mono ha.mono⟩
theorem e_mm0 {r : V → List V → Hp → VK → Prop} {g : Sto → List Tr → List Tr → List Tr → Tr → Prop} (s : MmT X.K r g) (ho : TPE X W o to) (hb : PE X o (lE X.K W to) → PE X (.Call (.Attribute o name apos) [] [] cpos) (tBM0 X.K "list" r (lE X.K W to))) : TPE X W (.Call (.Attribute o name apos) [] [] cpos) (uMm g to uNil) :=
  ⟨wkE (hb ho.pe) fun σ H R ⟨L, F, S, I, ρ, hd, sl, h⟩ => lE_then ho.mono hd sl h (fun _ _ _ _ h => h) fun x S1 v H1 I1 ⟨c, a, xs, xs', z, e, ea, hg, q⟩ hd1 s1 sl1 rx => ⟨tyOk_ty hd1 rx c, by
    subst e
    cases rx
    exact s hd1 ea (ys := []) rfl hg fun v' H' hd' r' => q v' H' I1 hd' s1 r'⟩, mono_mm ho.mono (a_nil (X := X) (W := W)).mono⟩
end
section
variable {K : PySem.W.Frag}
def gAppend (S : Sto) (xs ys xs' : List Tr) (z : Tr) : Prop := match ys with
  | [y] => xs.length < sizeLine ∧ xs' = xs ++ [y] ∧ z = .non
  | _ => False
theorem m_append : MmT K rAppend gAppend := by
  intro L F H S I a xs ys xs' z vs R hd ea ry hg k
  unfold gAppend at hg
  split at hg
  · rename_i y
    obtain ⟨c, rfl, rfl⟩ := hg
    obtain ⟨v, rfl, r1⟩ := RepL.one ry
    obtain ⟨_, _, o, ho, us, rfl, rl⟩ := hd.cel a _ ea
    exact ⟨a, us, v, rfl, rfl, ho, by rw [rl.len]; exact c, k _ _ (hd.mut ea ⟨_, rfl, rl.app (.cons r1 rfl)⟩) rfl⟩
  · exact hg.elim
def gExtend (S : Sto) (xs ys xs' : List Tr) (z : Tr) : Prop := match ys with
  | [y] => ∃ zs, vw S y = .lst zs ∧ xs.length + zs.length ≤ sizeLine ∧ xs' = xs ++ zs ∧ z = .non
  | _ => False
def gInsert (S : Sto) (xs ys xs' : List Tr) (z : Tr) : Prop := match ys with
  | [.int i, y] => xs.length < sizeLine ∧ 0 ≤ i ∧ i < 2 ^ 63 ∧ xs' = xs.take i.toNat ++ [y] ++ xs.drop i.toNat ∧ z = .non
  | _ => False
def gPop (S : Sto) (xs ys xs' : List Tr) (z : Tr) : Prop := ys = [] ∧ xs[xs.length - 1]? = some z ∧ xs' = xs.dropLast
theorem RepL.dropLast {I : Hp} {xs : List Tr} {vs : List V} (r : RepL K I xs vs) : RepL K I xs.dropLast vs.dropLast := by
  rw [List.dropLast_eq_take, List.dropLast_eq_take, r.len]
  exact r.take _
theorem m_pop : MmT K rPop gPop := by
  intro L F H S I a xs ys xs' z vs R hd ea ry hg k
  obtain ⟨rfl, e, rfl⟩ := hg
  cases ry
  obtain ⟨_, _, o, ho, us, rfl, rl⟩ := hd.cel a _ ea
  obtain ⟨v, ev, rv⟩ := rl.get' e
  exact ⟨a, us, v, rfl, rfl, ho, by rw [rl.len]; exact ev, k _ _ (hd.mut ea ⟨_, rfl, rl.dropLast⟩) rv⟩
/-- texts -/
def gJoin (x : Tr) (ys : List Tr) (z : Tr) : Prop := match x, ys with
  | .str a, [.lst zs] => ∃ ts : List Str, zs = ts.map Tr.str ∧ (ts.map (·.length)).sum + ts.length * a.length ≤ 16777216 ∧ z = .str (Txt.join a ts)
  | .str a, [.tup zs] => ∃ ts : List Str, zs = ts.map Tr.str ∧ (ts.map (·.length)).sum + ts.length * a.length ≤ 16777216 ∧ z = .str (Txt.join a ts)
  | _, _ => False
theorem RepL.strs_eq {I : Hp} : ∀ {ts : List Str} {vs : List V}, RepL K I (ts.map Tr.str) vs → vs = ts.map V.str
  | [], vs, r => by cases r; rfl
  | t :: ts, vs, r => by
    obtain ⟨v, ws, rfl, r1, r2⟩ := r
    cases r1
    rw [RepL.strs_eq r2]; rfl
theorem m_join {X : Cx} : MtT X.K (fun x xs H Q => ∃ a p, ∃ ys : List Str, x = .str a ∧ xs = [.ref p] ∧ (SqL X.K H p (ys.map V.str) ∨ SqT X.K H p (ys.map V.str)) ∧ (ys.map (·.length)).sum + ys.length * a.length ≤ 16777216 ∧ Q (.str (Txt.join a ys)) H) gJoin := by
  intro L F H S I x ys z v vs R hd rx ry hg k
  unfold gJoin at hg
  split at hg
  · rename_i a zs e1 e0
    obtain ⟨ts, rfl, c, rfl⟩ := hg
    obtain ⟨y, rfl, e2⟩ := map1 e0
    obtain ⟨w, rfl, r1⟩ := RepL.one ry
    cases vw_eq_str hd rx e1
    obtain ⟨b, us, rfl, h1, h2⟩ := vw_lst hd r1 e2
    cases RepL.strs_eq h2
    exact ⟨a, b, ts, rfl, rfl, .inl (.inl (.inl h1)), c, k _ H I hd (Same.refl _) rfl⟩
  · rename_i a zs e1 e0
    obtain ⟨ts, rfl, c, rfl⟩ := hg
    obtain ⟨y, rfl, e2⟩ := map1 e0
    obtain ⟨w, rfl, r1⟩ := RepL.one ry
    cases vw_eq_str hd rx e1
    obtain ⟨b, us, rfl, h1, h2⟩ := vw_tup hd r1 e2
    cases RepL.strs_eq h2
    exact ⟨a, b, ts, rfl, rfl, .inr h1, c, k _ H I hd (Same.refl _) rfl⟩
  · exact hg.elim
def gIsdigit (x : Tr) (ys : List Tr) (z : Tr) : Prop := match x, ys with
  | .str a, [] => z = .bl (Txt.isdigit a)
  | _, _ => False
theorem m_isdigit : MtT K (fun x xs H Q => ∃ a, x = .str a ∧ xs = [] ∧ True ∧ Q (.bl (Txt.isdigit a)) H) gIsdigit := by
  intro L F H S I x ys z v vs R hd rx ry hg k
  unfold gIsdigit at hg
  split at hg
  · rename_i a e1 e2
    cases vw_eq_str hd rx e1
    subst hg
    have : ys = [] := List.map_eq_nil_iff.mp e2
    subst this
    cases ry
    exact ⟨a, rfl, rfl, trivial, k _ H I hd (Same.refl _) rfl⟩
  · exact hg.elim
def gRmp (x : Tr) (ys : List Tr) (z : Tr) : Prop := match x, ys with
  | .str a, [.str b] => a.length ≤ sizeLine ∧ z = .str (Txt.removeprefix a b)
  | _, _ => False
end
/-! ### dicts walked under a lock -/
section
variable {X : Cx} {pos : Pos}
def srcV (i : Nat) : Rho → Sto → List Key → List Tr → Prop := fun ρ S ks xs => ρ[i]? = some (some (.dic ks xs))
def srcF (K : PySem.W.Frag) (i : Nat) (f : Str) : Rho → Sto → List Key → List Tr → Prop := fun ρ S ks xs => ∃ (x : Tr) (C : Addr) (fs : List Str) (ys : List Tr), ρ[i]? = some (some x) ∧ vw S x = .ins C fs ys ∧ ClsF K C f ∧ fget f fs ys = some (.dic ks xs)
/-- what is walked -/
inductive DK where
  | keys | vals | items
def DK.list : DK → List Key → List Tr → List Tr
  | .keys, k :: ks, x :: xs => (match k with | .inl n => .int n | .inr z => .str z) :: DK.list .keys ks xs
  | .vals, k :: ks, x :: xs => x :: DK.list .vals ks xs
  | .items, k :: ks, x :: xs => .tup [(match k with | .inl n => .int n | .inr z => .str z), x] :: DK.list .items ks xs
  | _, _, _ => []
def kT : Key → Tr
  | .inl n => .int n
  | .inr z => .str z
def DK.it : DK → Addr → Obj → List (Key × V) → It
  | .keys => Itk
  | .vals => Itd
  | .items => Iti
/-- the walk of a dict, as the layer below reads it -/
def DK.walk (w : DK) (td : TE) : TI := fun σ H R => td σ H fun x H1 => ∃ d o kvs, x = .ref d ∧ H1 d = some (.frz o (.dK kvs)) ∧ R (w.it d o kvs) H1
def uForD (w : DK) (src : Rho → Sto → List Key → List Tr → Prop) (p : Pat) (tb : US) : US := fun D X ρ S => ∃ ks xs, src ρ S ks xs ∧ uLoop (fun _ => True) p tb D X (DK.list w ks xs) ρ S
/-! a comprehension over a dict -/
def uLcD (w : DK) (src : Rho → Sto → List Key → List Tr → Prop) (p : Pat) (tt : UT) (te : UE) (vs : List Nat) : UE := fun ρ S Q X => ∃ ks xs, src ρ S ks xs ∧ uLcL (fun _ => True) p tt te (wipeR ρ vs) Q (DK.list w ks xs) [] S
end
end KQ
namespace KQ
open PySem PySem.Spec PyProof.Rows L2 TL KB
/-! ### own methods -/
structure MthT (P : Program) (w : World) (K : PySem.W.Frag) (mg : Str → Option Value) (base : Heap) (k : Nat) (C : Addr) (m : Str) (t : TSp) : Prop where
  ex : ∃ (f : Addr) (fd : FuncData) (ps : List Str), Meth K C m f ∧ Binds K fd ps [] ∧ FnOk P w K mg base (L2N.CX P w) k f fd ps (lSp K t)
  cl : Cls K C
  mono : MonoSp t
theorem fget_none {f : Str} : ∀ {fs : List Str} {xs : List Tr} {vs : List V}, fs.length = xs.length → vs.length = xs.length → fget f fs xs = none → (fs.zip vs).lookup f = none
  | [], _, _, _, _, _ => rfl
  | _ :: _, [], _, e, _, _ => nomatch e
  | _ :: _, _ :: _, [], _, e, _ => nomatch e
  | g :: gs, x :: xs, v :: vs, e1, e2, e => by
    by_cases h : f = g
    · rw [fget, if_pos h] at e; cases e
    · rw [fget, if_neg h] at e
      have hb : (f == g) = false := by simpa using h
      rw [List.zip_cons_cons, List.lookup_cons, hb]
      exact fget_none (by simpa using e1) (by simpa using e2) e
def uMeth (m : Str) (ms : Addr → TSp → Prop) (to : UE) (ta : UA) : UE := fun ρ S Q X => to ρ S (fun x S1 => ∃ C fs xs t, vw S1 x = .ins C fs xs ∧ ms C t ∧ fget m fs xs = none ∧ ta ρ S1 (fun ys S2 => t (x :: ys) S2 Q X) X) X
section
variable {X : Cx} {W : WX} {k : Nat} {m : Str} {ms : Addr → TSp → Prop} {o e : Expr} {es : List Expr} {to : UE} {ta : UA} {apos pos : Pos}
theorem mono_meth (hM : ∀ C t, ms C t → MonoSp t) (mo : MonoE to) (ma : MonoA ta) : MonoE (uMeth m ms to ta) := fun ρ S Q Q' X X' hQ hX h => mo _ _ _ _ _ _ (fun x S1 ⟨C, fs, xs, t, e, c, n, q⟩ => ⟨C, fs, xs, t, e, c, n, ma _ _ _ _ _ _ (fun ys S2 q => hM C t c _ _ _ _ _ _ hQ hX q) hX q⟩) hX h
theorem e_meth {pl : Sem Bool} (hM : ∀ C t, ms C t → MthT X.prog X.w X.K X.mg X.base k C m t) (hr : Room k X.A) (tk : L2N.Takes X W) (ho : TPE X W o to) (ha : TPA X W (e :: es) ta)
    (ht : eval (.Call (.Attribute o m apos) (e :: es) [] pos) X.env = (do
      let ov ← eval o X.env
      standAt apos.atName
      let (f, first) ← holding [ov] (getMethod ov m pl)
      callWith pos f first (backTo pos (starEach (e :: es) X.env)) (backToKw pos (keywordEach [] X.env))) := by rfl)
    (hst : starEach (e :: es) X.env = (false, eval e X.env) :: starEach es X.env := by rfl) (hpl : (backTo pos (starEach es X.env)).any (·.1) = false := by rfl) : TPE X W (.Call (.Attribute o m apos) (e :: es) [] pos) (uMeth m ms to ta) := by
  refine ⟨⟨fun pins s σ H Q I h => ?_⟩, mono_meth (fun C t c => (hM C t c).mono) ho.mono ha.mono⟩
  obtain ⟨L, F, S, I0, ρ, hd, sl, h⟩ := h
  have step : lE X.K W to σ H (fun x H1 => ∃ a C dx fs t, x = .ref a ∧ H1 a = some (.ins C dx fs) ∧ fs.lookup m = none ∧ ms C t ∧ lA X.K W ta σ H1 (fun vs H2 => lSp X.K t (.ref a :: vs) H2 Q (WE W σ))) :=
    lE_then ho.mono hd sl h (fun _ _ _ _ h => h) fun x S1 v H1 I1 ⟨C, fs, xs, t, e, c, n, q⟩ hd1 s1 sl1 r => by
      obtain ⟨a, dx, vs, rfl, h1, hl, h2⟩ := vw_ins hd1 r e
      refine ⟨a, C, dx, _, t, rfl, h1, fget_none hl h2.len n, c, lA_then ha.mono hd1 sl1 q (dnX_up s1) fun ys S2 us H2 I2 q2 hd2 s2 sl2 ry => ?_⟩
      exact ⟨L, F, S2, I2, x :: ys, hd2, .cons (r.mono s2) ry, (hM C t c).mono _ _ _ _ _ _ (dnV_up (s1.trans s2)) (dnX_up (s1.trans s2)) q2⟩
  refine PySem.W.methodCall_KW (pl := pl) (thn (ho.pe.run pins s σ H _ I step) fun u s1 ⟨x, H1, I1, rx, a, C, dx, fs, t, ex, ea, l, c, q⟩ => ?_) ht
  subst ex
  cases rx
  obtain ⟨⟨f, fd, ps, M, b, Fn⟩, cl, _⟩ := hM C t c
  refine getmeth_ok I1 ea cl M l (PySem.W.callWith_K (first := [.ref a]) (h₀ := X.base) I.ok.mod.kin M.kp (thn (ha.pe.run pos pins s1 σ H1 _ I1 q) fun us s2 ⟨vs, H2, I2, r, q2⟩ => ⟨I2.kIn, ?_⟩) hst hpl)
  exact run_fnS (us := .ref a :: us) (vs := .ref a :: vs) (E := WE W) Fn hr b (L2N.passAt tk σ) I2 (.cons rfl r) q2
theorem e_meth0 {pl : Sem Bool} (hM : ∀ C t, ms C t → MthT X.prog X.w X.K X.mg X.base k C m t) (hr : Room k X.A) (tk : L2N.Takes X W) (ho : TPE X W o to)
    (ht : eval (.Call (.Attribute o m apos) [] [] pos) X.env = (do
      let ov ← eval o X.env
      standAt apos.atName
      let (f, first) ← holding [ov] (getMethod ov m pl)
      callWith pos f first (backTo pos (starEach [] X.env)) (backToKw pos (keywordEach [] X.env))) := by rfl) : TPE X W (.Call (.Attribute o m apos) [] [] pos) (uMeth m ms to uNil) := by
  refine ⟨⟨fun pins s σ H Q I h => ?_⟩, mono_meth (fun C t c => (hM C t c).mono) ho.mono (a_nil (X := X) (W := W)).mono⟩
  obtain ⟨L, F, S, I0, ρ, hd, sl, h⟩ := h
  have step : lE X.K W to σ H (fun x H1 => ∃ a C dx fs t, x = .ref a ∧ H1 a = some (.ins C dx fs) ∧ fs.lookup m = none ∧ ms C t ∧ lSp X.K t [.ref a] H1 Q (WE W σ)) :=
    lE_then ho.mono hd sl h (fun _ _ _ _ h => h) fun x S1 v H1 I1 ⟨C, fs, xs, t, e, c, n, q⟩ hd1 s1 sl1 r => by
      obtain ⟨a, dx, vs, rfl, h1, hl, h2⟩ := vw_ins hd1 r e
      exact ⟨a, C, dx, _, t, rfl, h1, fget_none hl h2.len n, c, L, F, S1, I1, [x], hd1, .cons r rfl, (hM C t c).mono _ _ _ _ _ _ (dnV_up s1) (dnX_up s1) q⟩
  refine PySem.W.methodCall_KW (pl := pl) (thn (ho.pe.run pins s σ H _ I step) fun u s1 ⟨x, H1, I1, rx, a, C, dx, fs, t, ex, ea, l, c, q⟩ => ?_) ht
  subst ex
  cases rx
  obtain ⟨⟨f, fd, ps, M, b, Fn⟩, cl, _⟩ := hM C t c
  exact getmeth_ok I1 ea cl M l (PySem.W.callWith_K0 (first := [.ref a]) I1.kIn M.kp (run_fnS (us := [.ref a]) (vs := [.ref a]) (E := WE W) Fn hr b (L2N.passAt tk σ) I1 (.cons rfl .nil) q))
end
theorem dnX_closed {K : PySem.W.Frag} {L : Lk} {F I : Hp} {W : WX} {σ : L2.St} : ClosedX (dnX K L F I W σ) := fun c fs ys S S' sb z d H' I' hd' s' ⟨vs, h1, h2, h3, h4, h5, h6⟩ => z d H' I' (hd'.fewer sb) s' ⟨vs, h1, h2, h3, h4, sb.noneAt h5, h6⟩
/-! ### a class called -/
theorem FunD_lk {K : PySem.W.Frag} {x qual : Str} {params : Arguments} {body : List Stmt} {scope : Scope} {dvs : List V} {kws : List (Str × V)} {f : Addr} {fd : FuncData} (F : FunD K x qual params body scope dvs kws f fd) :
    ∃ (oc : Value) (od : Option Addr) (osl : Array (Option Value)), K.lookup f = some ⟨oc, od, .func fd, osl⟩ := by
  obtain ⟨oc, od, _, _, _, _, _, _, _, osl, _, lk, _⟩ := F.ex
  exact ⟨oc, od, osl, lk⟩
structure NewT (P : Program) (w : World) (K : PySem.W.Frag) (mg : Str → Option Value) (base : Heap) (k : Nat) (x : Str) (C : Addr) (t : TSp) : Prop where
  ex : ∃ (f : Addr) (fd : FuncData) (ps : List Str) (dts : List Tr) (tI : TSp) (ds : List Value) (dvs : List V), Mk K C f ∧ mg x = some (.ref C) ∧ Binds K fd ps ds ∧ Vals dvs ds ∧ (∀ I, RepL K I dts dvs) ∧ FnOk P w K mg base (L2N.CX P w) k f fd ps (lSp K tI) ∧ MonoSp tI ∧
    (∀ xs S Q X, Closed Q → ClosedX X → t xs S Q X → ∀ a, S a = none → tI (.ref a :: (xs ++ dts)) (put S a (.ins C [] [])) (fun v S2 => v = .non ∧ Q (.ref a) S2) X) ∧
    ∃ (oc : Value) (od : Option Addr) (osl : Array (Option Value)), K.lookup f = some ⟨oc, od, .func fd, osl⟩
  mono : MonoSp t
section
variable {X : Cx} {W : WX} {k : Nat} {x : Str} {C : Addr} {t : TSp} {e : Expr} {es : List Expr} {ta : UA} {p pos : Pos}
theorem run_new (N : NewT X.prog X.w X.K X.mg X.base k x C t) (hr : Room (k + 1) X.A) (tk : L2N.Takes X W) {pins : List (Addr × Obj)} {σ : L2.St} {H : Hp} {s : Shared} {Q : VK} {us : List Value} {vs : List V} (I : Inv X pins σ H s) (r : Vals vs us)
    (h : lSp X.K t vs H Q (WE W σ)) : wpAny (model X.prog X.w) X.A (call (.ref C) us) (EP X pins σ Q) X.xe s := by
  obtain ⟨⟨f, fd, ps, dts, tI, ds, dvs, M, g, b, vd, rd, Fn, mI, w, _⟩, _⟩ := N
  obtain ⟨L, F, S, I0, xs, hd, rx, q⟩ := h
  have n1 : H (s.heap.objs.size + 1) = none := I.hok.fresh (Nat.le_succ _)
  have n2 : H s.heap.objs.size = none := I.hok.fresh (Nat.le_refl _)
  have ne : s.heap.objs.size ≠ s.heap.objs.size + 1 := Nat.ne_of_lt (Nat.lt_succ_self _)
  have hd1 : Hd X.K L F (upd H s.heap.objs.size (.own (s.heap.objs.size + 1))) S I0 := hd.un n2
  have n3 : upd H s.heap.objs.size (.own (s.heap.objs.size + 1)) (s.heap.objs.size + 1) = none := by rw [upd_ne ne.symm]; exact n1
  have hd2 := hd1.cell (c := .ins C [] []) (o := .ins C s.heap.objs.size []) n3 ⟨_, [], rfl, rfl, rfl⟩
  have q1 := w xs S _ _ dnV_closed dnX_closed q (s.heap.objs.size + 1) (hd.freeS n1)
  have hq : lSp X.K tI (.ref (s.heap.objs.size + 1) :: (vs ++ dvs)) (upd (upd H s.heap.objs.size (.own (s.heap.objs.size + 1))) (s.heap.objs.size + 1) (.ins C s.heap.objs.size [])) (fun v H2 => v = .non ∧ Q (.ref (s.heap.objs.size + 1)) H2) (WE W σ) :=
    ⟨L, F, _, I0, .ref (s.heap.objs.size + 1) :: (xs ++ dts), hd2, .cons rfl (rx.app (rd I0)), mI _ _ _ _ _ _ (fun y S2 ⟨e, z⟩ v H' I' h1 h2 h3 => by subst e; cases h3; exact ⟨rfl, z _ H' I' h1 h2 rfl⟩) (fun _ _ _ _ z => z) q1⟩
  have I2 := Inv.made (C := C) I
  have r2 : Vals (V.ref (s.heap.objs.size + 1) :: (vs ++ dvs)) (Value.ref (s.heap.objs.size + 1) :: (us ++ ds)) := .cons rfl (r.append vd)
  have hl : (Value.ref (s.heap.objs.size + 1) :: us ++ ds).length = ps.length := by
    have e := r2.length
    rw [Fn.len _ _ _ _ hq] at e
    exact e.symm
  refine wpAny_call (make_map (f := f) I.kIn M.makes M.init (beq_iff_eq.mp M.fn) (codeAny_mono (Fn.run _ X.stack _ _ ⟨Value.ref (s.heap.objs.size + 1) :: us, []⟩ _ _ _ (WE W σ) (hr.make C us []) (I2.env0.make C us []) (b _ (Value.ref (s.heap.objs.size + 1) :: us) I2.kIn hl) r2 hq) fun r s' hq' => ?_))
  cases r with
  | error e => exact L2N.passAt tk σ pins _ _ e s' I2 hq'
  | ok fl =>
    cases fl with
    | ret u =>
      obtain ⟨v, H', I3, rv, ev, q3⟩ := I2.after hq'
      subst ev
      exact ⟨rv, ⟨V.ref (s.heap.objs.size + 1), H', I3, rfl, q3⟩⟩
    | next => exact hq'.elim
    | brk => exact hq'.elim
    | cont => exact hq'.elim
theorem e_new (N : NewT X.prog X.w X.K X.mg X.base k x C t) (hr : Room (k + 1) X.A) (hg : Gl X x) (tk : L2N.Takes X W) (ha : TPA X W (e :: es) ta) (hdb : (x == ("__debug__" : Str)) = false := by decide)
    (he : starEach (e :: es) X.env = (false, eval e X.env) :: starEach es X.env := by rfl) (hpl : (backTo pos (starEach es X.env)).any (·.1) = false := by rfl) : TPE X W (.Call (.Name x p) (e :: es) [] pos) (uCall t ta) := by
  refine ⟨⟨fun pins s σ H Q I h => ?_⟩, mono_call N.mono ha.mono⟩
  have h' := lCall (X := X) (W := W) N.mono ha.mono σ H Q h
  obtain ⟨⟨f, fd, ps, dts, tI, ds, dvs, M, g, _⟩, _⟩ := id N
  refine wpAny_Call_Name_kw (ld_glob I hg g ?_ hdb)
  exact PySem.W.callWith_K (h₀ := X.base) I.ok.mod.kin M.kp (thn (ha.pe.run pos pins s σ H _ I h') fun us s1 ⟨vs, H1, I1, r, q⟩ => ⟨I1.kIn, run_new N hr tk I1 r q⟩) he hpl
end
/-! ### defs and methods by their bodies -/
section
variable {P : Program} {w : World} {K : PySem.W.Frag} {mg : Str → Option Value} {base : Heap}
/-- a body that keeps a promise: qual the def's long name -/
structure BodyT (P : Program) (w : World) (K : PySem.W.Frag) (mg : Str → Option Value) (base : Heap) (k : Nat) (qual : Str) (st : Stmt) (N : List Str) (us : US) : Prop where
  ex : ∀ (f : Addr) (cdv : Value) (A : Around) (outer : List Env) (s : Shared) (H : Hp) (E : XK), Room k (A.deeper (envOfC qual (defScope st) s.heap.objs.size f cdv)) → L2N.Takes (cxOf (L2N.CX P w) P w K mg base N qual (defScope st) f cdv A outer s H E) (fun cls d _ H => E cls d H) →
      PassesOwn (model P w) (cxOf (L2N.CX P w) P w K mg base N qual (defScope st) f cdv A outer s H E).A (cxOf (L2N.CX P w) P w K mg base N qual (defScope st) f cdv A outer s H E).env (cxOf (L2N.CX P w) P w K mg base N qual (defScope st) f cdv A outer s H E).xe →
      TPSs (cxOf (L2N.CX P w) P w K mg base N qual (defScope st) f cdv A outer s H E) (fun cls d _ H => E cls d H) (defBody st) us
theorem fnD_ok {x qual : Str} {st : Stmt} {dvs : List V} {kws : List (Str × V)} {f : Addr} {fd : FuncData} {N ps : List Str} {k : Nat} {tsp : TSp} {us : US} (D : FunD K x qual (defArgs st) (defBody st) (defScope st) dvs kws f fd) (S : FnScope N ps (defScope st))
    (len : ∀ xs S Q X, tsp xs S Q X → xs.length = ps.length) (body : BodyT P w K mg base k qual st N us)
    (h : ∀ xs S Q X, Closed Q → ClosedX X → tsp xs S Q X → us (endU Q) (endX X) (startT N xs) S) : FnOk P w K mg base (L2N.CX P w) (k + 1) f fd ps (lSp K tsp) := by
  refine D.ok S (fun vs H Q E ⟨_, _, _, _, xs, _, r, q⟩ => by rw [r.len]; exact len _ _ _ _ q) fun cdv A outer s H vs Q E hr ⟨L, F, S0, I, xs, hd, r, q⟩ => ?_
  have B := body.ex f cdv A outer s H E hr (L2N.takes_of rfl rfl rfl rfl) (passes_of rfl)
  exact ⟨_, B.pe, body_ok (st := st) (tsp := tsp) (X := cxOf (L2N.CX P w) P w K mg base N qual (defScope st) f cdv A outer s H E) B.mono hd r (h xs S0 _ _ dnV_closed (fun c fs ys S S' sb z d H' I' hd' s' ⟨vs, h1, h2, h3, h4, h5, h6⟩ => z d H' I' (hd'.fewer sb) s' ⟨vs, h1, h2, h3, h4, sb.noneAt h5, h6⟩) q)⟩
/-- a method without defaults -/
theorem DefM.mth {C : Addr} {m qual : Str} {st : Stmt} {N ps : List Str} {k : Nat} {tsp : TSp} {us : US} (D : DefM K C m qual st []) (cl : Cls K C) (S : FnScope N ps (defScope st))
    (hb : ∀ (kV doc pm : Value) (an : Option Addr) (cdv ct : Value) (us : List Value), us.length = ps.length → bindArgs (PySem.W.fnOf m qual (defArgs st) (defBody st) (defScope st) .none kV doc pm an cdv ct) ⟨us, []⟩ = pure (ps.zip us))
    (len : ∀ xs S Q X, tsp xs S Q X → xs.length = ps.length) (mono : MonoSp tsp) (body : BodyT P w K mg base k qual st N us)
    (h : ∀ xs S Q X, Closed Q → ClosedX X → tsp xs S Q X → us (endU Q) (endX X) (startT N xs) S) : MthT P w K mg base (k + 1) C m tsp := by
  obtain ⟨f, fd, F, h1, h2⟩ := D.ex
  exact ⟨⟨f, fd, ps, ⟨h1, h2, F.kp⟩, F.bindsN hb, fnD_ok F S len body h⟩, cl, mono⟩
theorem DefM.mthBot {C : Addr} {m qual : Str} {st : Stmt} {ps : List Str} {k : Nat} {tsp : TSp} (D : DefM K C m qual st []) (cl : Cls K C)
    (hb : ∀ (kV doc pm : Value) (an : Option Addr) (cdv ct : Value) (us : List Value), us.length = ps.length → bindArgs (PySem.W.fnOf m qual (defArgs st) (defBody st) (defScope st) .none kV doc pm an cdv ct) ⟨us, []⟩ = pure (ps.zip us))
    (h : ∀ xs S Q X, ¬ tsp xs S Q X) : MthT P w K mg base k C m tsp := by
  obtain ⟨f, fd, F, h1, h2⟩ := D.ex
  exact ⟨⟨f, fd, ps, ⟨h1, h2, F.kp⟩, F.bindsN hb, ⟨fun vs H Q E ⟨_, _, _, _, xs, _, r, q⟩ => (h _ _ _ _ q).elim, fun _ _ _ _ _ _ _ _ _ _ _ _ _ ⟨_, _, _, _, xs, _, r, q⟩ => (h _ _ _ _ q).elim⟩⟩, cl, fun xs S Q Q' X X' _ _ q => (h _ _ _ _ q).elim⟩
/-- a class by its __init__ without defaults -/
theorem DefM.newT {C : Addr} {x qual : Str} {st : Stmt} {N ps : List Str} {k : Nat} {tI t : TSp} {us : US} (D : DefM K C "__init__" qual st []) (hmk : PySem.W.makesIn K C = true) (hkp : PySem.W.keepIn K (.ref C) = true) (g : mg x = some (.ref C)) (S : FnScope N ps (defScope st))
    (hb : ∀ (kV doc pm : Value) (an : Option Addr) (cdv ct : Value) (us : List Value), us.length = ps.length → bindArgs (PySem.W.fnOf "__init__" qual (defArgs st) (defBody st) (defScope st) .none kV doc pm an cdv ct) ⟨us, []⟩ = pure (ps.zip us))
    (len : ∀ xs S Q X, tI xs S Q X → xs.length = ps.length) (mI : MonoSp tI) (mono : MonoSp t) (body : BodyT P w K mg base k qual st N us)
    (h : ∀ xs S Q X, Closed Q → ClosedX X → tI xs S Q X → us (endU Q) (endX X) (startT N xs) S)
    (hw : ∀ xs S Q X, Closed Q → ClosedX X → t xs S Q X → ∀ a, S a = none → tI (.ref a :: xs) (put S a (.ins C [] [])) (fun v S2 => v = .non ∧ Q (.ref a) S2) X) : NewT P w K mg base (k + 1) x C t := by
  obtain ⟨f, fd, F, h1, h2⟩ := D.ex
  exact ⟨⟨f, fd, ps, [], tI, [], [], ⟨hmk, h1, h2, hkp⟩, g, F.bindsN hb, .nil, fun _ => rfl, fnD_ok F S len body h, mI, fun xs S Q X c cx q a n => by rw [List.append_nil]; exact hw xs S Q X c cx q a n, FunD_lk F⟩, mono⟩
end
/-! ### names of the module, types -/
section
variable {X : Cx} {W : WX} {pos : Pos}
theorem e_ty {x : Str} {T : String} (hg : Gl X x) (hm : X.mg x = none) (hv : bootBuiltins x = some (.type T)) (hn : x ≠ "__name__" := by decide) (hdb : (x == ("__debug__" : Str)) = false := by decide) : TPE X W (.Name x pos) (uC (.ty T)) :=
  e_const (pe_bltn (v := .ty T) hg hm hv rfl hn hdb) fun _ => rfl
/-- {} that will change -/
def uDNew : UE := fun _ S Q _ => ∀ p, S p = none → Q (.ref p) (put S p (.dic [] []))
end
end KQ
namespace KQ
open PySem PySem.Spec PyProof.Rows L2 TL KB
section
variable {K : PySem.W.Frag} {X : Cx} {W : WX}
/-- o.f += e, o a cell, whole numbers -/
def uFldAug (K : PySem.W.Frag) (f : Str) (g : Int → Int → Int) (to te : UE) : US := fun D X ρ S => to ρ S (fun x S1 => ∃ a C fs xs i, x = .ref a ∧ S1 a = some (.ins C fs xs) ∧ ClsF K C f ∧ fget f fs xs = some (.int i) ∧ te ρ S1 (fun y S2 => ∃ fs2 xs2 j, vw S2 y = .int j ∧ S2 a = some (.ins C fs2 xs2) ∧ fs2.length < 1000 ∧ D.nx ρ (put S2 a (.ins C (fputN f fs2) (fputX f (.int (g i j)) fs2 xs2)))) (atR X ρ)) (atR X ρ)
theorem s_fldaug {o e : Expr} {f : Str} {to te : UE} {op : Operator} {g : Int → Int → Int} {p' pos : Pos} (ho : TPE X W o to) (he : TPE X W e te) (hb : PE X o (lE X.K W to) → PE X e (lE X.K W te) → PS X (.AugAssign (.Attribute o f p') op e pos) (sFldAug X.K (lE X.K W to) (lE X.K W te) (fun x y H Q => ∃ i j, x = .int i ∧ y = .int j ∧ Q (.int (g i j)) H) f)) :
    TPS X W (.AugAssign (.Attribute o f p') op e pos) (uFldAug X.K f g to te) :=
  ⟨wkS (hb ho.pe he.pe) fun D σ H ⟨L, F, S, I, ρ, hd, sl, h⟩ => lE_then ho.mono hd sl h (dnXS_at sl) fun x S1 v H1 I1 ⟨a, C, fs, xs, i, e, ea, c, eg, q⟩ hd1 s1 sl1 rx => by
      subst e
      cases rx
      obtain ⟨_, _, o, h1, dx, vs, rfl, el, rl⟩ := hd1.cel a _ ea
      obtain ⟨w, e1, r1⟩ := fget_lk rl eg
      cases r1
      refine ⟨a, C, dx, _, _, rfl, h1, c.cl, c.no, e1, lE_then he.mono hd1 sl1 q (fun c f x S' z => dnXS_at sl1 _ _ _ _ (dnXS_up s1 _ _ _ _ _ z)) fun y S2 u H2 I2 ⟨fs2, xs2, j, ej, ea2, hl, q2⟩ hd2 s2 sl2 ry => ?_⟩
      cases vw_eq_int hd2 ry ej
      obtain ⟨_, _, o2, h2, dx2, vs2, rfl, el2, rl2⟩ := hd2.cel a _ ea2
      obtain ⟨ws, z1, z2, z3⟩ := fput_rep (f := f) (y := .int (g i j)) (w := .int (g i j)) rfl el2 rl2
      refine ⟨i, j, rfl, rfl, dx2, _, h2, by rw [List.length_zip]; omega, ?_⟩
      rw [z1]
      exact q2 σ _ I2 (hd2.mut ea2 ⟨dx2, ws, rfl, z2, z3⟩) (s1.trans s2) sl2, fun D D' X X' ρ S hD hX h => ho.mono _ _ _ _ _ _ (fun x S1 ⟨a, C, fs, xs, i, e, ea, c, eg, q⟩ => ⟨a, C, fs, xs, i, e, ea, c, eg, he.mono _ _ _ _ _ _ (fun y S2 ⟨fs2, xs2, j, ej, ea2, hl, q2⟩ => ⟨fs2, xs2, j, ej, ea2, hl, hD.1 _ _ q2⟩) (fun _ _ _ _ z => hX _ _ _ _ _ z) q⟩) (fun _ _ _ _ z => hX _ _ _ _ _ z) h⟩
/-! ### dict displays -/
def uPairs : List (UE × UE) → Rho → Sto → (List (Tr × Tr) → Sto → Prop) → QX → Prop
  | [], _, S, Q, _ => Q [] S
  | (a, b) :: r, ρ, S, Q, X => a ρ S (fun x S1 => b ρ S1 (fun y S2 => uPairs r ρ S2 (fun ps S3 => Q ((x, y) :: ps) S3) X) X) X
def keysOf : List (Tr × Tr) → Option (List Key)
  | [] => some []
  | (k, _) :: r => match keyT k, keysOf r with
    | some k, some ks => some (k :: ks)
    | _, _ => none
inductive MonoPs : List (UE × UE) → Prop
  | nil : MonoPs []
  | cons {a b : UE} {r : List (UE × UE)} (ha : MonoE a) (hb : MonoE b) (hr : MonoPs r) : MonoPs ((a, b) :: r)
theorem mono_pairs : ∀ {trs : List (UE × UE)}, MonoPs trs → ∀ ρ S (Q Q' : List (Tr × Tr) → Sto → Prop) X X', (∀ y S, Q y S → Q' y S) → XLe X X' → uPairs trs ρ S Q X → uPairs trs ρ S Q' X'
  | _, .nil, ρ, S, Q, Q', X, X', hQ, hX, h => hQ _ _ h
  | _, .cons ha hb hr, ρ, S, Q, Q', X, X', hQ, hX, h => ha _ _ _ _ _ _ (fun x S1 q => hb _ _ _ _ _ _ (fun y S2 q => mono_pairs hr _ _ _ _ _ _ (fun ps S3 q => hQ _ _ q) hX q) hX q) hX h
structure TPPs (X : Cx) (W : WX) (pos : Pos) (keys : List (Option Expr)) (values : List Expr) (trs : List (UE × UE)) : Prop where
  pe : PPs X pos keys values (trs.map fun ab => (lE X.K W ab.1, lE X.K W ab.2))
  mono : MonoPs trs
theorem pp_nil {pos : Pos} : TPPs X W pos [] [] [] := ⟨pps_nil, .nil⟩
def RepP (K : PySem.W.Frag) (I : Hp) : List (Tr × Tr) → List (V × V) → Prop
  | [], vs => vs = []
  | (a, b) :: r, vs => ∃ v w ws, vs = (v, w) :: ws ∧ Rep K I a v ∧ Rep K I b w ∧ RepP K I r ws
theorem pairs_run {L : Lk} {F : Hp} {σ : L2.St} {ρ : Rho} : ∀ {trs : List (UE × UE)}, MonoPs trs → ∀ {H I : Hp} {S : Sto} {Q : List (Tr × Tr) → Sto → Prop} {X0 : QX} {R : List (V × V) → Hp → Prop}, Hd K L F H S I → Slots K I σ ρ → uPairs trs ρ S Q X0 → XLe X0 (dnX K L F I W σ) →
    (∀ ps S' vs H' I', Q ps S' → Hd K L F H' S' I' → Same I I' → RepP K I' ps vs → R vs H') → tPairs (trs.map fun ab => (lE K W ab.1, lE K W ab.2)) σ H R
  | _, .nil, H, I, S, Q, X0, R, hd, sl, h, hx, k => k [] S [] H I h hd (Same.refl _) rfl
  | _, .cons ha hb hr, H, I, S, Q, X0, R, hd, sl, h, hx, k => by
    refine lE_then ha hd sl h hx fun x S1 v H1 I1 q hd1 s1 sl1 rx => lE_then hb hd1 sl1 q (fun c f x S z => dnX_up s1 _ _ _ _ (hx _ _ _ _ z)) fun y S2 w H2 I2 q2 hd2 s2 sl2 ry => ?_
    refine pairs_run hr hd2 sl2 q2 (fun c f x S z => dnX_up (s1.trans s2) _ _ _ _ (hx _ _ _ _ z)) fun ps S' vs H' I' q' hd' s' r' => ?_
    exact k _ S' _ H' I' q' hd' ((s1.trans s2).trans s') ⟨v, w, vs, rfl, rx.mono (s2.trans s'), ry.mono s', r'⟩
theorem keysOf_rep {I : Hp} : ∀ {ps : List (Tr × Tr)} {vs : List (V × V)} {ks : List Key}, RepP K I ps vs → keysOf ps = some ks → ∃ ws, vs = (ks.zip ws).map (fun kv => (kV kv.1, kv.2)) ∧ ks.length = (ps.map (·.2)).length ∧ RepL K I (ps.map (·.2)) ws
  | [], vs, ks, r, e => by cases r; cases e; exact ⟨[], rfl, rfl, rfl⟩
  | (a, b) :: ps, vs, ks, r, e => by
    obtain ⟨v, w, us, rfl, ra, rb, rr⟩ := r
    unfold keysOf at e
    split at e
    · rename_i k ks' e1 e2
      cases e
      obtain ⟨ws, h1, h2, h3⟩ := keysOf_rep rr e2
      have hk : v = kV k := by
        cases a with
        | int n => cases e1; exact ra
        | str n => cases e1; exact ra
        | _ => cases e1
      subst hk
      exact ⟨w :: ws, by simp [h1], by simp [h2], .cons rb h3⟩
    · cases e
theorem merge_nodup {kvs more : List (Key × V)} : ((kvs ++ more).map (·.1)).Nodup → mergeK kvs more = kvs ++ more := by
  induction more generalizing kvs with
  | nil => intro _; simp [mergeK]
  | cons p r ih =>
    intro h
    obtain ⟨k, v⟩ := p
    have hn : (kvs.any fun kv => decide (kv.1 = k)) = false := by
      rw [Bool.eq_false_iff]
      intro z
      obtain ⟨q, hq, e⟩ := List.any_eq_true.mp z
      have e := of_decide_eq_true e
      rw [List.map_append, List.nodup_append] at h
      exact h.2.2 q.1 (List.mem_map.mpr ⟨q, hq, rfl⟩) k (by simp) e
    have e1 : putK kvs k v = kvs ++ [(k, v)] := by unfold putK; rw [if_neg (by rw [hn]; exact Bool.false_ne_true)]
    show mergeK (putK kvs k v) r = _
    rw [e1, ih (by simpa using h)]
    simp
/-- a display that will change -/
def uDisp (trs : List (UE × UE)) : UE := fun ρ S Q X => uPairs trs ρ S (fun ps S2 => ∃ ks, keysOf ps = some ks ∧ ks.Nodup ∧ ks.length ≤ 15 ∧ ∀ p, S2 p = none → Q (.ref p) (put S2 p (.dic ks (ps.map (·.2))))) X
theorem e_disp {pos : Pos} {keys : List (Option Expr)} {values : List Expr} {trs : List (UE × UE)} (h : TPPs X W pos keys values trs) (hb : PPs X pos keys values (trs.map fun ab => (lE X.K W ab.1, lE X.K W ab.2)) → PE X (.Dict keys values pos) (tDisp (trs.map fun ab => (lE X.K W ab.1, lE X.K W ab.2)))) : TPE X W (.Dict keys values pos) (uDisp trs) :=
  ⟨wkE (hb h.pe) fun σ H R ⟨L, F, S, I, ρ, hd, sl, q⟩ p np => by
    refine pairs_run h.mono (hd.frame np) sl q (fun c f x S z d H' I' hd' s' ⟨vs, z1, z2, z3, z4, z5, z6⟩ => z d H' I' (hd'.lessF (upd_sub (hd.freeF np))) s' ⟨vs, z1, z2, z3, z4, z5, (upd_sub (hd.freeF np)).free z6⟩) fun ps S' vs H' I' ⟨ks, ek, nd, hl, q'⟩ hd' s' r' => ?_
    obtain ⟨ws, e1, e2, e3⟩ := keysOf_rep r' ek
    have hp := (hd'.fra p _ upd_same)
    have nS : S' p = none := by
      cases z : S' p with
      | none => rfl
      | some c => have := (hd'.cel p c z).2.1; rw [upd_same] at this; cases this
    have ew : ws.length = ks.length := by rw [e3.len, e2]
    have em : mergeK [] (ks.zip ws) = ks.zip ws := by
      rw [merge_nodup (by rw [List.nil_append, List.map_fst_zip (by omega)]; exact nd), List.nil_append]
    refine ⟨hp.1, ks.zip ws, e1, by rw [List.length_zip]; omega, ?_⟩
    rw [em]
    have hd2 : Hd X.K L F (upd H' p (.dK (ks.zip ws))) (put S' p (.dic ks (ps.map (·.2)))) I' := by
      have h0 := (hd'.refr (o := .dK (ks.zip ws)))
      refine ⟨h0.sub, h0.lck, fun a c z => ?_, fun b o z => ?_⟩
      · by_cases ha : a = p
        · subst ha
          rw [put_same] at z
          cases z
          exact ⟨hp.2, hd.freeF np, _, upd_same, ws, rfl, e2, e3⟩
        · rw [put_ne ha] at z
          obtain ⟨y1, y2, y3⟩ := h0.cel a c z
          exact ⟨y1, by rw [upd_ne ha] at y2; exact y2, y3⟩
      · have nb : b ≠ p := fun y => by subst y; rw [hd.freeF np] at z; cases z
        exact h0.fra b o (by rw [upd_ne nb]; exact z)
    exact q' p nS _ _ I' hd2 s' rfl, fun ρ S Q Q' X X' hQ hX h' => mono_pairs h.mono _ _ _ _ _ _ (fun ps S2 ⟨ks, a, b, c, q⟩ => ⟨ks, a, b, c, fun p np => hQ _ _ (q p np)⟩) hX h'⟩
theorem pp_cons {pos : Pos} {ke ve : Expr} {ks : List (Option Expr)} {vs : List Expr} {a b : UE} {r : List (UE × UE)} (ha : TPE X W ke a) (hb : TPE X W ve b) (hr : TPPs X W pos ks vs r)
    (hp : PE X ke (lE X.K W a) → PE X ve (lE X.K W b) → PPs X pos ks vs (r.map fun ab => (lE X.K W ab.1, lE X.K W ab.2)) → PPs X pos (some ke :: ks) (ve :: vs) (((a, b) :: r).map fun ab => (lE X.K W ab.1, lE X.K W ab.2))) : TPPs X W pos (some ke :: ks) (ve :: vs) ((a, b) :: r) := ⟨hp ha.pe hb.pe hr.pe, .cons ha.mono hb.mono hr.mono⟩
/-! ### lists of truths -/
def blsOf : List Tr → Option (List Bool)
  | [] => some []
  | .bl b :: r => (blsOf r).map (b :: ·)
  | _ => none
def gAll (f : List Bool → Bool) (xs : List Tr) (z : Tr) : Prop := match xs with
  | [.lst ys] => ∃ bs, blsOf ys = some bs ∧ z = .bl (f bs)
  | _ => False
/-! ### levels -/
theorem CalleeT.lift {P : Program} {w : World} {mg : Str → Option Value} {base : Heap} {j k : Nat} {x : Str} {ps : List Str} {t : TSp} (C : CalleeT P w K mg base j x ps t) (h : j ≤ k) : CalleeT P w K mg base k x ps t := by
  obtain ⟨⟨f, fd, g, kp, b, F, lk⟩, m⟩ := C
  exact ⟨⟨f, fd, g, kp, b, F.mono h, lk⟩, m⟩
theorem MthT.lift {P : Program} {w : World} {mg : Str → Option Value} {base : Heap} {j k : Nat} {C : Addr} {x : Str} {t : TSp} (M : MthT P w K mg base j C x t) (h : j ≤ k) : MthT P w K mg base k C x t := by
  obtain ⟨⟨f, fd, ps, a, b, F⟩, c, m⟩ := M
  exact ⟨⟨f, fd, ps, a, b, F.mono h⟩, c, m⟩
theorem NewT.lift {P : Program} {w : World} {mg : Str → Option Value} {base : Heap} {j k : Nat} {C : Addr} {x : Str} {t : TSp} (N : NewT P w K mg base j x C t) (h : j ≤ k) : NewT P w K mg base k x C t := by
  obtain ⟨⟨f, fd, ps, dts, tI, ds, dvs, a, b, c, d, e, F, r⟩, m⟩ := N
  exact ⟨⟨f, fd, ps, dts, tI, ds, dvs, a, b, c, d, e, F.mono h, r⟩, m⟩
end
end KQ
namespace KQ
open PySem PySem.Spec PyProof.Rows L2 TL KB
/-! ### the rules that speak of the frame's part, with that part named -/
section
variable {X : Cx} {W : WX} {K : PySem.W.Frag} {e o : Expr} {te to : UE} {f : Str} {pos p' : Pos}
theorem e_fldK (hk : X.K = K) (he : TPE X W e te) (hb : attributeBase e f X.env (eval e X.env) = eval e X.env) : TPE X W (.Attribute e f pos) (uFld K f te) := by
  subst hk; exact e_fld he hb
theorem s_fldK (hk : X.K = K) (ho : TPE X W o to) (he : TPE X W e te) (hs : swapsWith e (some (.Attribute o f p')) pos.line X.env = pure false) : TPS X W (.Assign [.Attribute o f p'] e pos) (uSFld K f to te) := by
  subst hk; exact s_fld ho he hs
theorem s_fldaugK {op : Operator} {g : Int → Int → Int} (hk : X.K = K) (ho : TPE X W o to) (he : TPE X W e te) (hb : PE X o (lE X.K W to) → PE X e (lE X.K W te) → PS X (.AugAssign (.Attribute o f p') op e pos) (sFldAug X.K (lE X.K W to) (lE X.K W te) (fun x y H Q => ∃ i j, x = .int i ∧ y = .int j ∧ Q (.int (g i j)) H) f)) :
    TPS X W (.AugAssign (.Attribute o f p') op e pos) (uFldAug K f g to te) := by
  subst hk; exact s_fldaug ho he hb
/-- isinstance(x, c), c a class of the program -/
def uIsi1 (K : PySem.W.Frag) (u : Value) (te : UE) : UE := fun ρ S Q X => te ρ S (fun x S1 => ∃ t b, tyT K (vw S1 x) t ∧ PySem.W.kitOne K t u = some b ∧ Q (.bl b) S1) X
end
/-! ### operators of a class's own -/
/-- x op y, both of one class -/
def uOBin (ms : Addr → TSp → Prop) (ta tb : UE) : UE := fun ρ S Q X => ta ρ S (fun x S1 => tb ρ S1 (fun y S2 => ∃ C fs xs gs zs t, vw S2 x = .ins C fs xs ∧ vw S2 y = .ins C gs zs ∧ ms C t ∧ t [x, y] S2 Q X) X) X
/-- x[y], x of a class with a __getitem__ -/
def uOIx (ms : Addr → TSp → Prop) (ta tb : UE) : UE := fun ρ S Q X => ta ρ S (fun x S1 => tb ρ S1 (fun y S2 => ∃ C fs xs t, vw S2 x = .ins C fs xs ∧ ms C t ∧ t [x, y] S2 Q X) X) X
section
variable {X : Cx} {W : WX} {k : Nat} {ms : Addr → TSp → Prop} {a b : Expr} {ta tb : UE} {pos : Pos}
end
section
variable {X : Cx} {W : WX} {k : Nat} {ms : Addr → TSp → Prop} {a b : Expr} {ta tb : UE} {pos : Pos}
end
/-- x in y, x not in y (n), y of a class with a __contains__ that answers True or False -/
def uOIn (n : Bool) (ms : Addr → TSp → Prop) (ta tb : UE) : UE := fun ρ S Q X => ta ρ S (fun x S1 => tb ρ S1 (fun y S2 => ∃ C fs xs t, vw S2 y = .ins C fs xs ∧ ms C t ∧ t [y, x] S2 (fun z S3 => ∃ b, z = .bl b ∧ Q (.bl (n ^^ b)) S3) X) X) X
section
variable {X : Cx} {W : WX} {k : Nat} {ms : Addr → TSp → Prop} {a b : Expr} {ta tb : UE} {pos : Pos}
end
/-- len(x), x of a class with a __len__ -/
def uOLen (ms : Addr → TSp → Prop) (ta : UE) : UE := fun ρ S Q X => ta ρ S (fun x S1 => ∃ C fs xs t, vw S1 x = .ins C fs xs ∧ ms C t ∧ t [x] S1 (fun z S2 => ∃ n : Int, z = .int n ∧ 0 ≤ n ∧ n < 9223372036854775808 ∧ Q (.int n) S2) X) X
end KQ
namespace KQ
open PySem PySem.Spec PyProof.Rows L2 TL KB
/-! ### try with clauses that have a name or none -/
abbrev Sut := Addr → Value → Option Addr → TS
/-- the ends of a suite whose name is gone behind it -/
def clr (i : Nat) (D : L2.Ends) : L2.Ends := ⟨fun τ G => D.nx (τ.set i none) G, D.rt, fun τ G => D.bk (τ.set i none) G, fun τ G => D.ct (τ.set i none) G⟩
def wMix (K : PySem.W.Frag) (Wo : WX) (D : L2.Ends) : List (Value × Option Nat × Sut) → WX
  | [] => Wo
  | (c, none, u) :: r => fun k d τ G => ∃ y, PySem.W.exmOne K k c = some y ∧ (y = true → ∀ e, G e = none → u e k d D τ G) ∧ (y = false → wMix K Wo D r k d τ G)
  | (c, some i, u) :: r => fun k d τ G => ∃ y, PySem.W.exmOne K k c = some y ∧ (y = true → ∀ e, G e = none → u e k d (clr i D) (τ.set i (some (.ref e))) G) ∧ (y = false → wMix K Wo D r k d τ G)
inductive HdM (X : Cx) : List ExceptHandler → List (Value × Option Nat × Sut) → Prop
  | nil : HdM X [] []
  | only {x : Str} {c : Value} {u : Sut} {b : Stmt} {bs : List Stmt} {p1 p2 : Pos} {hs : List ExceptHandler} {l : List (Value × Option Nat × Sut)} (nm : Names X x c)
      (su : ∀ (e : Addr) (o : Obj) (k : Value) (d : Option Addr) (pn : List (Addr × Obj)), L2N.Zn k d o → (∃ fs, o.data = .fields fs) → PSs (X.suite e ((e, o) :: pn)) (b :: bs) (u e k d)) (r : HdM X hs l) :
      HdM X (.ExceptHandler (some (.Name x p1)) none (b :: bs) p2 :: hs) ((c, none, u) :: l)
  | named {x n : Str} {i : Nat} {c : Value} {u : Sut} {b : Stmt} {bs : List Stmt} {p1 p2 : Pos} {hs : List ExceptHandler} {l : List (Value × Option Nat × Sut)} (nd : X.N.Nodup) (at_ : X.N[i]? = some n) (lc : X.env.kindOf n = some .local) (nm : Names X x c)
      (su : ∀ (e : Addr) (o : Obj) (k : Value) (d : Option Addr) (pn : List (Addr × Obj)), L2N.Zn k d o → (∃ fs, o.data = .fields fs) → PSs (X.suite e ((e, o) :: pn)) (b :: bs) (u e k d)) (r : HdM X hs l) :
      HdM X (.ExceptHandler (some (.Name x p1)) (some n) (b :: bs) p2 :: hs) ((c, some i, u) :: l)
theorem ps_try_mix {X : Cx} {body : List Stmt} {g : ExceptHandler} {gs : List ExceptHandler} {l : List (Value × Option Nat × Sut)} {pos : Pos} {tb : WX → TS} {Wo : WX} (st : X.stack = X.env :: X.outer) (fr : X.env.frame = some X.env.locals) (tk : L2N.Takes X Wo)
    (bd : ∀ (W : WX) (pn : List (Addr × Obj)) (xe : Value → Shared → Prop), L2N.Takes (X.tr pn xe) W → PassesOwn (model X.prog X.w) X.A X.env xe → PSs (X.tr pn xe) body (tb W))
    (hd : HdM X (g :: gs) l) : PS X (.Try body (g :: gs) [] [] pos) (fun D σ H => tb (wMix X.K Wo D l) D σ H) := by
  refine ⟨fun pins s σ H D I h => ?_⟩
  have F0 : X.A.frames = some (X.env :: X.outer) := by rw [I.ok.frames, st]
  refine wpAny_Try_except (wpAny_mono ((bd (wMix X.K Wo D l) (X.pn ++ pins) (fun v t1 => wpAny (model X.prog X.w) X.A (noteFrame v X.env) (fun _ t2 => wpAny (model X.prog X.w) X.A (setFlight v none) (fun _ t3 =>
    wpAny (model X.prog X.w) X.A (handleBy v X.env (g :: gs)) (SP X pins D) X.xe t3) X.xe t2) X.xe t1) (fun v t xx => ?_) PassesOwn.looking).run [] s σ H D (I.toTry _) h) (fun f t z => ?_) (fun _ _ z => z))
  · obtain ⟨e, B, t0, pins0, τ, G, k, d, rfl, R0, nb, up, sky, ne, os, ag, w⟩ := xx
    have R : Inv X pins τ G t0 := R0.ofTry I.ok
    rw [st] at sky
    show wpAny (model X.prog X.w) X.A (noteFrame (.ref e) X.env) _ _ _
    refine L2N.Sky.land L2N.Zn.steady F0 fr sky fun h1 fl up1 => ?_
    have R1 : Inv X pins τ G { t with heap := h1 } := R.landed nb fl.1 (up.trans up1) os ag
    obtain ⟨o1, fs1, g1, z1, d1⟩ := fl.there
    have off : e ∉ frs (X.env :: X.outer) := fun hm => by
      obtain ⟨_, o2, e2, nf⟩ := fl.2.2.1.mem hm
      rw [g1] at e2
      cases e2
      exact nf _ d1
    have offL : e ≠ X.env.locals := fun z => off (List.mem_filterMap.mpr ⟨X.env, List.mem_cons_self, by rw [fr, z]⟩)
    have offF : e ∉ X.fs := fun hm => by
      obtain ⟨v, hv, q⟩ := List.mem_filterMap.mp hm
      exact off (List.mem_filterMap.mpr ⟨v, List.mem_cons_of_mem _ hv, q⟩)
    have U1 := R1.suite g1 d1 ne offL offF
    have ty : PySem.W.Looks (model X.prog X.w) h1 (typeOf (.ref e)) k := fun A Q E t5 kk q => wpAny_typeOf_ref (kk _ _ g1) (by rw [z1.1]; exact q)
    have tst : ∀ {x : Str} {c : Value} {p1 : Pos} {Q : Value → Shared → Prop} {E : Value → Shared → Prop}, Names X x c → Q c { t with heap := h1 } → wpAny (model X.prog X.w) (X.A.mark (some (.ref e))) (eval (.Name x p1) X.env) Q E { t with heap := h1 } := fun {x c p1 Q E} nm q => by
      obtain ⟨y1, y2, y3 | ⟨y3, y4, y5⟩⟩ := nm
      · exact ld_glob (X := X.suite e ((e, o1) :: (X.pn ++ pins))) U1 y1 y3 q y2
      · exact ld_blt (X := X.suite e ((e, o1) :: (X.pn ++ pins))) U1 y1 y3 y4 q y5 y2
    have go : ∀ {gs2 : List ExceptHandler} {l2 : List (Value × Option Nat × Sut)}, HdM X gs2 l2 → wMix X.K Wo D l2 k d τ G → wpAny (model X.prog X.w) X.A (handleBy (.ref e) X.env gs2) (SP X pins D) X.xe { t with heap := h1 } := by
      intro gs2 l2 hk
      induction hk with
      | nil =>
        intro w2
        refine wpAny_handleBy_nil ?_
        obtain ⟨m1, m2, m3, o3, fs3, T, oT, tsT, g3, z3, d3, h3, r3⟩ := id fl
        unfold PySem.passOn
        refine wpAny_bind (wpAny_field g3 d3 h3 ?_)
        rw [if_neg (show ¬ ((Value.ref T == Value.none) = true) from by simp)]
        have out : wpAny (model X.prog X.w) X.A (setFlight (.ref e) X.env.frame) (fun _ t4 => wpAny (model X.prog X.w) X.A (throw (.ref e) : Sem Flow) (SP X pins D) X.xe t4) X.xe { t with heap := h1 } := by
          rw [fr]
          exact HandSPX.setFlight_upZ fl fun h2 hh2 up2 => wpAny_throw (tk _ _ ⟨e, B, t0, pins, τ, G, k, d, rfl, R, nb, (up.trans up1).trans up2, .inr (.inr (by rw [st]; exact hh2)), ne, os, ag, w2⟩)
        first
          | exact wpAny_bind (wpAny_pure (wpAny_bind out))
          | exact wpAny_bind out
      | @only x c u b bs p1 p2 hs2 l2 nm su r ih =>
        rintro ⟨y, hy, y1, y0⟩
        refine wpAny_handleBy_cons (codeAny_handlers_test ?_) (fun q => by cases q)
        refine tst nm ((PySem.W.exm_one (M := model X.prog X.w) R1.kIn ty hy).here ?_)
        cases y with
        | false => exact ih (y0 rfl)
        | true =>
          refine codeAny_handlers_suite (HandSPX.lands_againZ fl fun h2 fl2 up2 => ?_)
          have R2 : Inv X pins τ G { t with heap := h2 } := R.landed nb fl2.1 ((up.trans up1).trans up2) os ag
          obtain ⟨o2, fs2, g2, z2, d2⟩ := fl2.there
          refine wpAny_mono ((su e o2 k d (X.pn ++ pins) z2 ⟨_, d2⟩).run [] _ _ G _ (R2.suite g2 d2 ne offL offF) (y1 rfl e ne)) (fun f t6 q => ?_) (fun _ _ z => False.elim z)
          cases f with
          | ret v => exact let ⟨v6, τ6, G6, U6, r6, q6⟩ := q; ⟨v6, τ6, G6, U6.unsuite I.ok, r6, q6⟩
          | next => exact let ⟨τ6, G6, U6, q6⟩ := q; ⟨τ6, G6, U6.unsuite I.ok, q6⟩
          | brk => exact let ⟨τ6, G6, U6, q6⟩ := q; ⟨τ6, G6, U6.unsuite I.ok, q6⟩
          | cont => exact let ⟨τ6, G6, U6, q6⟩ := q; ⟨τ6, G6, U6.unsuite I.ok, q6⟩
      | @named x n i c u b bs p1 p2 hs2 l2 nd at_ lc nm su r ih =>
        rintro ⟨y, hy, y1, y0⟩
        refine wpAny_handleBy_cons (codeAny_handlers_test ?_) (fun q => by cases q)
        refine tst nm ((PySem.W.exm_one (M := model X.prog X.w) R1.kIn ty hy).here ?_)
        cases y with
        | false => exact ih (y0 rfl)
        | true =>
          refine codeAny_handlers_suite_as (HandSPX.lands_againZ fl fun h2 fl2 up2 => ?_)
          have R2 : Inv X pins τ G { t with heap := h2 } := R.landed nb fl2.1 ((up.trans up1).trans up2) os ag
          obtain ⟨o2, fs2, g2, z2, d2⟩ := fl2.there
          refine store_ok (X := X.suite e ((e, o2) :: (X.pn ++ pins))) (v := .ref e) (R2.suite g2 d2 ne offL offF) nd at_ (.inl lc) rfl (fun t5 U5 => ?_) (.inr lc)
          refine wpAny_mono ((su e o2 k d (X.pn ++ pins) z2 ⟨_, d2⟩).run [] t5 _ G _ U5 (y1 rfl e ne)) (fun f t6 q => ?_) (fun _ _ z => False.elim z)
          have nd6 : ∀ {τ6 : L2.St} {G6 : Hp} {P : Shared → Prop}, Inv (X.suite e ((e, o2) :: (X.pn ++ pins))) [] τ6 G6 t6 → (∀ t7, Inv X pins (τ6.set i none) G6 t7 → P t7) → wpAny (model X.prog X.w) X.A (do bindName X.env n .none; unbindBehindTheSuite X.env n p2) (fun _ t7 => P t7) X.xe t6 :=
            fun {τ6 G6 P} U6 hP => gone_ok (U6.unsuite I.ok) nd at_ lc hP
          cases f with
          | ret v => exact let ⟨v6, τ6, G6, U6, r6, q6⟩ := q; nd6 U6 fun t7 V7 => ⟨_, _, _, V7, r6, q6⟩
          | next => exact let ⟨τ6, G6, U6, q6⟩ := q; nd6 U6 fun t7 V7 => ⟨_, _, V7, q6⟩
          | brk => exact let ⟨τ6, G6, U6, q6⟩ := q; nd6 U6 fun t7 V7 => ⟨_, _, V7, q6⟩
          | cont => exact let ⟨τ6, G6, U6, q6⟩ := q; nd6 U6 fun t7 V7 => ⟨_, _, V7, q6⟩
    exact go hd w
  · cases f with
    | ret v => exact let ⟨v6, τ6, G6, V6, r6, q6⟩ := z; ⟨v6, τ6, G6, V6.ofTry I.ok, r6, q6⟩
    | next => exact let ⟨τ6, G6, V6, q6⟩ := z; wpAny_execs_nil ⟨τ6, G6, V6.ofTry I.ok, q6⟩
    | brk => exact let ⟨τ6, G6, V6, q6⟩ := z; ⟨τ6, G6, V6.ofTry I.ok, q6⟩
    | cont => exact let ⟨τ6, G6, V6, q6⟩ := z; ⟨τ6, G6, V6.ofTry I.ok, q6⟩
/-! ### the same over trees -/
def XS0 : XS := fun _ _ _ _ _ => False
/-- what a suite reads, by the exception, its dict, its class -/
abbrev SuU := Addr → Addr → Value → US
def clrU (i : Nat) (D : UEnds) : UEnds := { nx := fun ρ S => D.nx (ρ.set i none) S, rt := D.rt, bk := fun ρ S => D.bk (ρ.set i none) S, ct := fun ρ S => D.ct (ρ.set i none) S }
/-- what the clauses wish of an exception -/
def hX (K : PySem.W.Frag) (D : UEnds) (X : XS) : List (Value × Option Nat × SuU) → XS
  | [] => X
  | (c, none, u) :: r => fun k fs xs ρ S => ∃ y, PySem.W.exmOne K k c = some y ∧ (y = true → ∀ e d, u e d k D XS0 ρ S) ∧ (y = false → hX K D X r k fs xs ρ S)
  | (c, some i, u) :: r => fun k fs xs ρ S => ∃ y, PySem.W.exmOne K k c = some y ∧ (y = true → ∀ e d, u e d k (clrU i D) XS0 (ρ.set i (some (.exc e d k fs xs))) S) ∧ (y = false → hX K D X r k fs xs ρ S)
def uTry (K : PySem.W.Frag) (tb : US) (l : List (Value × Option Nat × SuU)) : US := fun D X ρ S => tb D (hX K D X l) ρ S
inductive HdT (X : Cx) : List ExceptHandler → List (Value × Option Nat × SuU) → Prop
  | nil : HdT X [] []
  | only {x : Str} {c : Value} {u : SuU} {b : Stmt} {bs : List Stmt} {p1 p2 : Pos} {hs : List ExceptHandler} {l : List (Value × Option Nat × SuU)} (nm : Names X x c)
      (su : ∀ (e d : Addr) (o : Obj) (k : Value) (pn : List (Addr × Obj)), L2N.Zn k (some d) o → (∃ fs, o.data = .fields fs) → TPSs (X.suite e ((e, o) :: pn)) W0 (b :: bs) (u e d k)) (r : HdT X hs l) :
      HdT X (.ExceptHandler (some (.Name x p1)) none (b :: bs) p2 :: hs) ((c, none, u) :: l)
  | named {x n : Str} {i : Nat} {c : Value} {u : SuU} {b : Stmt} {bs : List Stmt} {p1 p2 : Pos} {hs : List ExceptHandler} {l : List (Value × Option Nat × SuU)} (nd : X.N.Nodup) (at_ : X.N[i]? = some n) (lc : X.env.kindOf n = some .local) (nm : Names X x c)
      (su : ∀ (e d : Addr) (o : Obj) (k : Value) (pn : List (Addr × Obj)), L2N.Zn k (some d) o → (∃ fs, o.data = .fields fs) → TPSs (X.suite e ((e, o) :: pn)) W0 (b :: bs) (u e d k)) (r : HdT X hs l) :
      HdT X (.ExceptHandler (some (.Name x p1)) (some n) (b :: bs) p2 :: hs) ((c, some i, u) :: l)
def lowS (K : PySem.W.Frag) (u : SuU) : Sut := fun e k d D σ H => ∃ dd, d = some dd ∧ lS K W0 (u e dd k) D σ H
def liftH (K : PySem.W.Frag) : List (Value × Option Nat × SuU) → List (Value × Option Nat × Sut)
  | [] => []
  | (c, i, u) :: r => (c, i, lowS K u) :: liftH K r
theorem lowS_ok {X : Cx} {u : SuU} {sts : List Stmt} {e : Addr} {o : Obj} {k : Value} {d : Option Addr} {pn : List (Addr × Obj)} (su : ∀ d, L2N.Zn k (some d) o → TPSs (X.suite e ((e, o) :: pn)) W0 sts (u e d k)) (z : L2N.Zn k d o) : PSs (X.suite e ((e, o) :: pn)) sts (lowS X.K u e k d) :=
  ⟨fun pins s σ H D I ⟨dd, ed, q⟩ => by subst ed; exact (su dd z).pe.run pins s σ H D I q⟩
theorem HdT.low {X : Cx} {hs : List ExceptHandler} {l : List (Value × Option Nat × SuU)} (h : HdT X hs l) : HdM X hs (liftH X.K l) := by
  induction h with
  | nil => exact .nil
  | only nm su r ih => exact .only nm (fun e o k d pn z f => lowS_ok (fun dd z => su e dd o k pn z f) z) ih
  | named nd at_ lc nm su r ih => exact .named nd at_ lc nm (fun e o k d pn z f => lowS_ok (fun dd z => su e dd o k pn z f) z) ih
inductive MonoH : List (Value × Option Nat × SuU) → Prop
  | nil : MonoH []
  | cons {c : Value} {i : Option Nat} {u : SuU} {r : List (Value × Option Nat × SuU)} (m : ∀ e d k, MonoS (u e d k)) (h : MonoH r) : MonoH ((c, i, u) :: r)
theorem HdT.mono {X : Cx} {hs : List ExceptHandler} {l : List (Value × Option Nat × SuU)} (h : HdT X hs l) : MonoH l := by
  induction h with
  | nil => exact .nil
  | only nm su r ih => exact .cons (fun e d k => (su e d ⟨k, some d, .fields #[.none, .none, .none], #[]⟩ k [] ⟨rfl, rfl, fun vs e => by cases e; rfl⟩ ⟨_, rfl⟩).mono) ih
  | named nd at_ lc nm su r ih => exact .cons (fun e d k => (su e d ⟨k, some d, .fields #[.none, .none, .none], #[]⟩ k [] ⟨rfl, rfl, fun vs e => by cases e; rfl⟩ ⟨_, rfl⟩).mono) ih
theorem clrU_le {i : Nat} {D D' : UEnds} (h : ULe D D') : ULe (clrU i D) (clrU i D') := ⟨fun _ _ q => h.1 _ _ q, h.2.1, fun _ _ q => h.2.2.1 _ _ q, fun _ _ q => h.2.2.2 _ _ q⟩
theorem hX_mono {K : PySem.W.Frag} {D D' : UEnds} {X X' : XS} (hD : ULe D D') (hXX : XSLe X X') {l : List (Value × Option Nat × SuU)} (m : MonoH l) : XSLe (hX K D X l) (hX K D' X' l) := by
  induction m with
  | nil => exact hXX
  | @cons c i u r m _ ih =>
    intro k fs xs ρ S h
    cases i with
    | none =>
      obtain ⟨y, h1, h2, h3⟩ := h
      exact ⟨y, h1, fun z e d => m _ _ _ _ _ _ _ _ _ hD (fun _ _ _ _ _ q => q) (h2 z e d), fun z => ih _ _ _ _ _ (h3 z)⟩
    | some i =>
      obtain ⟨y, h1, h2, h3⟩ := h
      exact ⟨y, h1, fun z e d => m _ _ _ _ _ _ _ _ _ (clrU_le hD) (fun _ _ _ _ _ q => q) (h2 z e d), fun z => ih _ _ _ _ _ (h3 z)⟩
theorem hX_low {K : PySem.W.Frag} {L : Lk} {F I : Hp} {Wo : WX} {D : L2.Ends} {l : List (Value × Option Nat × SuU)} (m : MonoH l) : XSLe (hX K (dnD K L F I D) (dnXS K L F I Wo) l) (dnXS K L F I (wMix K Wo D (liftH K l))) := by
  induction m with
  | nil => exact fun _ _ _ _ _ h => h
  | @cons c i u r m _ ih =>
    intro k fs xs ρ S h d σ' H' I' hd s sl xd
    cases i with
    | none =>
      obtain ⟨y, h1, h2, h3⟩ := h
      exact ⟨y, h1, fun z e ne => ⟨d, rfl, L, F, S, I', ρ, hd, sl, m _ _ _ _ _ _ _ _ _ (dnD_up s) (fun _ _ _ _ _ q => q.elim) (h2 z e d)⟩, fun z => ih _ _ _ _ _ (h3 z) d σ' H' I' hd s sl xd⟩
    | some i =>
      obtain ⟨y, h1, h2, h3⟩ := h
      refine ⟨y, h1, fun z e ne => ?_, fun z => ih _ _ _ _ _ (h3 z) d σ' H' I' hd s sl xd⟩
      obtain ⟨vs, g1, g2, g3, g4, g5, g6⟩ := xd
      have hd2 := hd.adopt g1 g4 g5 g6
      have s2 : Same I' (upd I' d (.xd (fs.zip vs))) := upd_sub g4
      have sl2 : Slots K (upd I' d (.xd (fs.zip vs))) (σ'.set i (some (.ref e))) (ρ.set i (some (.exc e d k fs xs))) := (sl.mono s2).set ⟨rfl, vs, upd_same, g2, RepL.mono s2 _ _ g3⟩
      refine ⟨d, rfl, L, F, S, _, _, hd2, sl2, m _ _ _ _ _ _ _ _ _ ?_ (fun _ _ _ _ _ q => q.elim) (h2 z e d)⟩
      have up := dnD_up (K := K) (L := L) (F := F) (D := D) (s.trans s2)
      exact ⟨fun ρ1 S1 q σ1 H1 I1 hd1 s1 sl1 => up.1 _ _ q _ _ _ hd1 s1 sl1.none, up.2.1, fun ρ1 S1 q σ1 H1 I1 hd1 s1 sl1 => up.2.2.1 _ _ q _ _ _ hd1 s1 sl1.none, fun ρ1 S1 q σ1 H1 I1 hd1 s1 sl1 => up.2.2.2 _ _ q _ _ _ hd1 s1 sl1.none⟩
theorem s_try {X : Cx} {K : PySem.W.Frag} {body : List Stmt} {g : ExceptHandler} {gs : List ExceptHandler} {l : List (Value × Option Nat × SuU)} {pos : Pos} {tb : US} {Wo : WX} (hk : X.K = K) (st : X.stack = X.env :: X.outer) (fr : X.env.frame = some X.env.locals) (tk : L2N.Takes X Wo)
    (bd : ∀ (W : WX) (pn : List (Addr × Obj)) (xe : Value → Shared → Prop), L2N.Takes (X.tr pn xe) W → PassesOwn (model X.prog X.w) X.A X.env xe → TPSs (X.tr pn xe) W body tb)
    (hd : HdT X (g :: gs) l) : TPS X Wo (.Try body (g :: gs) [] [] pos) (uTry K tb l) := by
  subst hk
  have mb : MonoS tb := (bd W0 [] (fun _ _ => False) (fun u s' ⟨_, _, _, _, _, _, _, _, _, _, _, _, _, _, _, _, w⟩ => w.elim) PassesOwn.never).mono
  refine ⟨wkS (ps_try_mix (tb := fun W => lS X.K W tb) st fr tk (fun W pn xe t po => (bd W pn xe t po).pe) hd.low) fun D σ H ⟨L, F, S, I, ρ, hd1, sl, h⟩ => ⟨L, F, S, I, ρ, hd1, sl, mb _ _ _ _ _ _ (ULe.refl _) (hX_low hd.mono) h⟩, fun D D' X X' ρ S hD hXX h => mb _ _ _ _ _ _ hD (hX_mono hD hXX hd.mono) h⟩
/-! ### e.f and isinstance(e, C) in a suite -/
/-- e.f, e what the suite holds -/
def uXf (K : PySem.W.Frag) (e d : Addr) (k : Value) (f : Str) (te : UE) : UE := fun ρ S Q X => te ρ S (fun x S1 => ∃ C fs xs y, x = .exc e d k fs xs ∧ k = .ref C ∧ ExcC K C ∧ PySem.W.findIn K (.ref C) f = some none ∧ fget f fs xs = some y ∧ Q y S1) X
def uIsE (K : PySem.W.Frag) (e d : Addr) (k u : Value) (te : UE) : UE := fun ρ S Q X => te ρ S (fun x S1 => ∃ C fs xs b, x = .exc e d k fs xs ∧ k = .ref C ∧ ExcC K C ∧ PySem.W.kitOne K (.ref C) u = some b ∧ Q (.bl b) S1) X
theorem mono_xf {K : PySem.W.Frag} {e d : Addr} {k : Value} {f : Str} {te : UE} (m : MonoE te) : MonoE (uXf K e d k f te) := fun ρ S Q Q' X X' hQ hX h => m _ _ _ _ _ _ (fun x S1 ⟨C, fs, xs, y, e1, e2, e3, e4, e5, q⟩ => ⟨C, fs, xs, y, e1, e2, e3, e4, e5, hQ _ _ q⟩) hX h
theorem excC_xf {K : PySem.W.Frag} {C : Addr} (h : ExcC K C) : XfC K C := ⟨h.hg, h.hk, h.hs, h.hd⟩
section
variable {X : Cx} {K : PySem.W.Frag} {e d : Addr} {o : Obj} {k : Value} {pn : List (Addr × Obj)} {a : Expr} {te : UE} {f : Str} {pos : Pos}
theorem e_xf (z : Zc k (some d) o) (hf : ∃ fs, o.data = .fields fs) (hk : X.K = K) (he : TPE (X.suite e ((e, o) :: pn)) W0 a te) (hb : attributeBase a f X.env (eval a X.env) = eval a X.env) :
    TPE (X.suite e ((e, o) :: pn)) W0 (.Attribute a f pos) (uXf K e d k f te) := by
  subst hk
  refine ⟨⟨fun pins s σ H Q I h => ?_⟩, mono_xf he.mono⟩
  obtain ⟨L, F, S, I0, ρ, hd, sl, h⟩ := h
  by_cases hC : ∃ C, k = .ref C ∧ ExcC X.K C ∧ PySem.W.findIn X.K (.ref C) f = some none
  · obtain ⟨C, rfl, T, no⟩ := hC
    refine (pe_xf (excC_xf T) no z hf he.pe hb).run pins s σ H Q I ?_
    refine lE_then he.mono hd sl h (fun _ _ _ _ q => q) fun x S1 v H1 I1 ⟨C', fs, xs, y, e1, e2, e3, e4, e5, q⟩ hd1 s1 sl1 r => ?_
    subst e1
    obtain ⟨rv, vs, g1, g2, g3⟩ := r
    obtain ⟨w, hw, rw_⟩ := fget_lk g3 e5
    have hL : L d = none := by
      cases e : L d with
      | none => rfl
      | some od => obtain ⟨kv, z⟩ := hd1.lck d od e; rw [g1] at z; cases z
    refine ⟨rv, rfl, d, _, w, rfl, ?_, hw, q w H1 I1 hd1 s1 rw_⟩
    have := hd1.sub _ _ g1
    rw [hL] at this
    exact this
  · have no : lE X.K W0 te σ H (fun _ _ => False) := lE_then he.mono hd sl h (fun _ _ _ _ q => q) fun x S1 v H1 I1 ⟨C', fs, xs, y, e1, e2, e3, e4, e5, q⟩ hd1 s1 sl1 r => hC ⟨C', e2, e3, e4⟩
    exact attr_of hb (thn (he.pe.run pins s σ H _ I no) fun u s1 ⟨_, _, _, _, z⟩ => z.elim)
end
/-! ### raise C(e, ..), C a class of the program -/
/-- what C's own __init__ keeps, C's fields as its parameters stand -/
def spX (C : Addr) (fs : List Str) : Sp := fun vs H Q _ => ∃ (a : Addr) (ws : List V), vs = .ref a :: ws ∧ ws.length = fs.length ∧ H a = some (exo a C none) ∧ ∀ d, H d = none → d ≠ a → Q .non (upd (upd H d (exd d (fs.zip ws))) a (exo a C (some d)))
structure ExcT (P : Program) (w : World) (K : PySem.W.Frag) (mg : Str → Option Value) (base : Heap) (k : Nat) (x : Str) (C : Addr) (fs : List Str) : Prop where
  ex : ∃ (CX : CXT) (f : Addr) (fd : FuncData) (ps : List Str), OexC K C ∧ mg x = some (.ref C) ∧ PySem.W.findIn K (.ref C) "__init__" = some (some (.ref f)) ∧ PySem.W.typeIn K (.ref f) = some (.type "function") ∧ Binds K fd ps [] ∧ FnOk P w K mg base CX k f fd ps (spX C fs) ∧ (∀ X : Cx, Passes CX X (fun _ _ _ => False))
  few : fs.length ≤ 1000
def uRaise (C : Addr) (fs : List Str) (ta : UA) : US := fun D X ρ S => ta ρ S (fun xs S1 => xs.length = fs.length ∧ X (.ref C) fs xs ρ S1) (atR X ρ)
theorem upd_made {H : Hp} {a d : Addr} {o1 o2 u x : HO} (na : H a = none) (nda : d ≠ a) : upd (del (upd (upd (upd H a o1) d u) a o2) a) d x = upd H d x := by
  funext b
  by_cases h : b = d
  · subst h; rw [upd_same, upd_same]
  · rw [upd_ne h, upd_ne h]
    by_cases h2 : b = a
    · subst h2; rw [del_same, na]
    · rw [del_ne h2, upd_ne h2, upd_ne h, upd_ne h2]
/-- C(e, ..) of an own exception class: its context is None -/
theorem pmk_oexN {X : Cx} {e : Expr} {es : List Expr} {ta : TA} {pos p : Pos} {CX : CXT} {x : Str} {C fI : Addr} {k : Nat} {fd : FuncData} {ps : List Str} {sp : Sp} {ds : List Value} {dvs : List V} (T : OexC X.K C) (iC : PySem.W.findIn X.K (.ref C) "__init__" = some (some (.ref fI))) (tI : PySem.W.typeIn X.K (.ref fI) = some (.type "function"))
    (F1 : FnOk X.prog X.w X.K X.mg X.base CX k fI fd ps sp) (hr : Room (k + 1) X.A) (hb : Binds X.K fd ps ds) (hd : Vals dvs ds) (hx : Passes CX X (fun _ _ _ => False)) (hg : Gl X x) (hm : X.mg x = some (.ref C)) (ha : PA X (e :: es) ta)
    (hdb : (x == ("__debug__" : Str)) = false := by decide) (he : starEach (e :: es) X.env = (false, eval e X.env) :: starEach es X.env := by rfl) (hpl : (backTo pos (starEach es X.env)).any (·.1) = false := by rfl) :
    L2N.PMk X (.Call (.Name x p) (e :: es) [] pos) (tMkO C sp dvs ta) := by
  intro pins s σ H Q I h
  obtain ⟨nm, q, N, bs, bm, sn, sub, ab, col, dd, k0, k1, k2, k3, k5, hC, hbm⟩ := T.cls
  refine wpAny_Call_Name_kw (ld_glob I hg hm ?_ hdb)
  refine PySem.W.callWith_K (h₀ := X.base) I.ok.mod.kin T.kC (thn (ha.run pos pins s σ H _ I h) fun us s1 ⟨vs, H1, I1, r1, hz, q1⟩ => ⟨I1.kIn, ?_⟩) he hpl
  show wpAny _ _ (call (.ref C) us) _ _ _
  obtain ⟨hp, g, dr, tk, os⟩ := s1
  have hsz : hp.objs.size ≤ hp.objs.size + 1 := Nat.le_succ _
  have hn : H1 (hp.objs.size + 1) = none := I1.hok.fresh hsz
  have hq := q1 (hp.objs.size + 1) hn
  have kk : ∀ b o, hp.get? b = some o → ((hp.push (PySem.W.kdv_tup us)).push (PySem.HandSPX.excO C hp.objs.size)).get? b = some o := fun b o e => Heap.get?_push_of_some _ (Heap.get?_push_of_some _ e)
  have hget : ((hp.push (PySem.W.kdv_tup us)).push (PySem.HandSPX.excO C hp.objs.size)).get? (hp.objs.size + 1) = some (PySem.HandSPX.excO C hp.objs.size) := by heap_get
  have I2 : Inv X pins σ (upd H1 (hp.objs.size + 1) (exo (hp.objs.size + 1) C none)) ⟨(hp.push (PySem.W.kdv_tup us)).push (PySem.HandSPX.excO C hp.objs.size), g, dr, tk, os⟩ :=
    I1.laid (t' := tk) (a := hp.objs.size + 1) (o := exo (hp.objs.size + 1) C none) (h' := (hp.push (PySem.W.kdv_tup us)).push (PySem.HandSPX.excO C hp.objs.size)) kk hsz (exo_ok hget)
  have r2 : Vals (V.ref (hp.objs.size + 1) :: (vs ++ dvs)) (Value.ref (hp.objs.size + 1) :: (us ++ ds)) := .cons rfl (r1.append hd)
  have hl : (Value.ref (hp.objs.size + 1) :: us ++ ds).length = ps.length := by
    have e := r2.length
    rw [F1.len _ _ _ _ hq] at e
    exact e.symm
  have hus : us.length ≤ sizeLine := by
    rw [← Paired.length r1, sizeLine_eq]
    omega
  refine wpAny_call (PySem.HandSPX.call_own F.excBase_ValueError (fun Y => PySem.HandSPX.refsVE_contains Y bm hbm) (I1.kIn _ _ hC) (PySem.W.looks_findIn I1.kIn iC) (fun self => PySem.W.bind_fn I1.kIn self tI) hus
    (codeAny_mono (F1.run _ X.stack _ _ ⟨Value.ref (hp.objs.size + 1) :: us, []⟩ (Value.ref (hp.objs.size + 1) :: (us ++ ds)) _ _ (fun _ _ _ => False) (hr.make C us []) (I2.env0.make C us []) (hb _ (Value.ref (hp.objs.size + 1) :: us) I2.kIn hl) r2 hq) fun r s' hq' => ?_))
  cases r with
  | error er => exact hx pins σ _ _ er s' I2 hq'
  | ok fl =>
    cases fl with
    | ret u =>
      obtain ⟨v, H2, os2, bare2, un2, hok2, rv, ev, d, fs, ea, ed, hd1, q2⟩ := hq'
      subst ev
      obtain ⟨h2, g2, d2, t2, os'⟩ := s'
      obtain ⟨t0, G, J, kG, ge, hoe, na⟩ := mk_end0 (d2 := d2) (t2 := t2) I1 hsz kk un2 hok2 os2 bare2 ea ed hd1
      exact ⟨rv, _, _, _, ⟨G, g2, d2, t2, os'⟩, _, .ref C, some d, rfl, J, kG, ge, hoe, ⟨rfl, rfl, fun vs e => by cases e; rfl⟩, rfl, rfl, na, rfl, bare2, raises_own T.exC T.tyC, q2⟩
    | next => exact False.elim hq'
    | brk => exact False.elim hq'
    | cont => exact False.elim hq'
theorem s_raise {X : Cx} {W : WX} {k : Nat} {x : Str} {C : Addr} {fs : List Str} {e : Expr} {es : List Expr} {ta : UA} {p pos1 pos : Pos} (E : ExcT X.prog X.w X.K X.mg X.base k x C fs) (hc : X.calm = true) (hr : Room (k + 1) X.A) (hg : Gl X x) (tk : L2N.Takes X W) (ha : TPA X W (e :: es) ta)
    (hdb : (x == ("__debug__" : Str)) = false := by decide) (he : starEach (e :: es) X.env = (false, eval e X.env) :: starEach es X.env := by rfl) (hpl : (backTo pos1 (starEach es X.env)).any (·.1) = false := by rfl) :
    TPS X W (.Raise (some (.Call (.Name x p) (e :: es) [] pos1)) none pos) (uRaise C fs ta) := by
  obtain ⟨⟨CX, f, fd, ps, T, hm, h1, h2, b, Fn, px⟩, few⟩ := E
  refine ⟨wkS (L2N.ps_raise hc tk (pmk_oexN T h1 h2 Fn hr b .nil (px X) hg hm ha.pe hdb he hpl)) fun D σ H ⟨L, F, S, I, ρ, hd, sl, h⟩ => ?_, fun D D' X1 X2 ρ S hD hXX h => ha.mono _ _ _ _ _ _ (fun xs S1 q => ⟨q.1, hXX _ _ _ _ _ q.2⟩) (fun c gs ys S1 q => hXX _ _ _ _ _ q) h⟩
  refine lA_then ha.mono hd sl h (dnXS_at sl) fun ys S1 vs H1 I1 ⟨len, q⟩ hd1 s1 sl1 r => ⟨by rw [r.len, len]; exact few, fun a na => ?_⟩
  refine ⟨a, vs, by rw [List.append_nil], by rw [r.len, len], upd_same, fun d nd nda => ⟨rfl, d, fs.zip vs, upd_same, by rw [upd_ne nda, upd_same], ?_, ?_⟩⟩
  · rw [upd_ne nda] at nd; exact nd
  · rw [upd_ne nda] at nd
    rw [upd_made na nda]
    exact q d σ _ I1 (hd1.un nd) s1 sl1 ⟨vs, upd_same, len.symm, r, hd1.freeI nd, hd1.freeS nd, hd1.freeF nd⟩
theorem exd_eq {d : Addr} {fs gs : List (Str × V)} (h : ∀ f, fs.lookup f = gs.lookup f) : exd d fs = exd d gs := by
  unfold exd
  congr 1
  funext hp
  simp only [h]
theorem upd_upd {H : Hp} {a : Addr} {o u : HO} : upd (upd H a o) a u = upd H a u := by
  funext b
  by_cases h : b = a
  · subst h; rw [upd_same, upd_same]
  · rw [upd_ne h, upd_ne h, upd_ne h]
theorem upd_comm {H : Hp} {a b : Addr} {o u : HO} (h : a ≠ b) : upd (upd H a o) b u = upd (upd H b u) a o := by
  funext c
  by_cases h1 : c = b
  · subst h1; rw [upd_same, upd_ne h.symm, upd_same]
  · rw [upd_ne h1]
    by_cases h2 : c = a
    · subst h2; rw [upd_same, upd_same]
    · rw [upd_ne h2, upd_ne h2, upd_ne h1]
/-- self.f = y, self.g = z, .. -/
def tInit (K : PySem.W.Frag) : Nat → List Str → TS
  | _, [] => fun D σ H => D.nx σ H
  | i, [f] => tOst K f (tVar 0) (tVar i)
  | i, f :: g :: r => tSeq (tOst K f (tVar 0) (tVar i)) (tInit K (i + 1) (g :: r))
theorem tInit_more {K : PySem.W.Frag} {C a d : Addr} {D : L2.Ends} {σ : L2.St} {v0 : V} (e0 : σ[0]? = some (some v0)) (ev : v0 = .ref a) (O : OexC K C) : ∀ (fs : List Str) (i : Nat) (ws : List V) (H : Hp) (us : List (Str × V)), fs ≠ [] → ws.length = fs.length → (∀ j w, ws[j]? = some w → σ[i + j]? = some (some w)) → (∀ f ∈ fs, PySem.W.findIn K (.ref C) f = some none) → us.length + fs.length ≤ 900 → H a = some (exo a C (some d)) → H d = some (exd d us) → d ≠ a →
    D.nx σ (upd H d (exd d ((fs.zip ws).reverse ++ us))) → tInit K i fs D σ H
  | [], _, _, _, _, n, _, _, _, _, _, _, _, _ => (n rfl).elim
  | [f], i, ws, H, us, _, l, g, no, fw, ha, hd, nda, q => by
    match ws, l with
    | [y], _ =>
      subst ev
      exact ⟨y, g 0 y rfl, .ref a, e0, a, C, rfl, O, no f (by simp), .inr ⟨d, us, ha, hd, by simp at fw; omega, q⟩⟩
  | f :: f2 :: r, i, ws, H, us, _, l, g, no, fw, ha, hd, nda, q => by
    match ws, l with
    | y :: ws, l =>
      refine ⟨y, g 0 y rfl, v0, e0, a, C, ev, O, no f (by simp), .inr ⟨d, us, ha, hd, by simp at fw; omega, ?_⟩⟩
      refine tInit_more e0 ev O (f2 :: r) (i + 1) ws _ ((f, y) :: us) (by simp) (by simpa using l) (fun j w h => by have := g (j + 1) w (by simpa using h); rwa [show i + (j + 1) = i + 1 + j by omega] at this) (fun x hx => no x (List.mem_cons_of_mem _ hx)) (by simp at fw ⊢; omega) (by rw [upd_ne nda.symm]; exact ha) upd_same nda ?_
      rw [upd_upd]
      have e : ((f2 :: r).zip ws).reverse ++ (f, y) :: us = ((f :: f2 :: r).zip (y :: ws)).reverse ++ us := by simp
      rw [e]; exact q
theorem zip_rev_lookup {fs : List Str} {ws : List V} (nd : fs.Nodup) (f : Str) : (fs.zip ws).reverse.lookup f = (fs.zip ws).lookup f := by
  induction fs generalizing ws with
  | nil => rfl
  | cons g r ih =>
    cases ws with
    | nil => rfl
    | cons w ws =>
      obtain ⟨h1, h2⟩ := List.nodup_cons.mp nd
      rw [List.zip_cons_cons, List.reverse_cons, List.lookup_append, ih h2]
      by_cases h : f = g
      · subst h
        have : (r.zip ws).lookup f = none := by
          rw [List.lookup_eq_none_iff]
          intro p hp
          have := List.of_mem_zip hp
          exact by
            rw [bne_iff_ne]
            intro z
            exact h1 (z ▸ this.1)
        rw [this]
        simp [List.lookup]
      · have : (f == g) = false := by simpa using h
        simp only [List.lookup, this]
        cases (r.zip ws).lookup f <;> rfl
/-- a class with `def __init__(self, y, ..): self.f = y; ..` -/
theorem DefM.excT {P : Program} {w : World} {K : PySem.W.Frag} {mg : Str → Option Value} {base : Heap} {C : Addr} {x qual : Str} {fs : List Str} {st : Stmt} {N ps : List Str} {k : Nat} (D : DefM K C "__init__" qual st []) (O : OexC K C) (g : mg x = some (.ref C)) (no : ∀ f ∈ fs, PySem.W.findIn K (.ref C) f = some none) (S : FnScope N ps (defScope st))
    (hb : ∀ (kV doc pm : Value) (an : Option Addr) (cdv ct : Value) (us : List Value), us.length = ps.length → bindArgs (PySem.W.fnOf "__init__" qual (defArgs st) (defBody st) (defScope st) .none kV doc pm an cdv ct) ⟨us, []⟩ = pure (ps.zip us)) (hl : ps.length = fs.length + 1) (nd : fs.Nodup) (h0 : fs ≠ []) (few : fs.length ≤ 100)
    (hN : ∀ (v : V) (us : List V), us.length = fs.length → ∀ (j : Nat) (u : V), (v :: us)[j]? = some u → (start N (v :: us))[j]? = some (some u))
    (body : ∀ (f : Addr) (cdv : Value) (A : Around) (outer : List Env) (s : Shared) (H : Hp) (E : XK), PSs (cxOf CX0 P w K mg base N qual (defScope st) f cdv A outer s H E).nox (defBody st) (tInit K 1 fs)) : ExcT P w K mg base (k + 1) x C fs := by
  obtain ⟨f, fd, F, h1, h2⟩ := D.ex
  refine ⟨⟨CX0, f, fd, ps, O, g, h1, beq_iff_eq.mp h2, F.bindsN hb, F.ok S (fun vs H Q E ⟨a, ws, e, l, _⟩ => by rw [e, hl]; exact congrArg (· + 1) l) fun cdv A outer s H vs Q E hr ⟨a, ws, e, l, ha, q⟩ => ⟨_, (body f cdv A outer s H E).nox, ?_⟩, fun X => pass0⟩, by omega⟩
  subst e
  have e0 : (start N (.ref a :: ws))[0]? = some (some (.ref a)) := hN _ ws l 0 _ rfl
  match fs, ws, l, h0 with
  | [f1], [y], _, _ => exact ⟨y, hN _ [y] rfl 1 y rfl, .ref a, e0, a, C, rfl, O, no f1 (by simp), .inl ⟨ha, fun d nd nda => q d nd nda⟩⟩
  | f1 :: f2 :: r, y :: ws, l, _ =>
    refine ⟨y, hN _ (y :: ws) l 1 y rfl, .ref a, e0, a, C, rfl, O, no f1 (by simp), .inl ⟨ha, fun d hd nda => ?_⟩⟩
    refine tInit_more (v0 := .ref a) e0 rfl O (f2 :: r) 2 ws _ [(f1, y)] (by simp) (by simpa using l) (fun j w h => hN _ (y :: ws) l (2 + j) w (by rw [show 2 + j = j + 1 + 1 by omega]; simpa using h)) (fun x hx => no x (List.mem_cons_of_mem _ hx)) (by simp at few ⊢; omega) upd_same (by rw [upd_ne nda, upd_same]) nda ?_
    have e : ((f2 :: r).zip ws).reverse ++ [(f1, y)] = ((f1 :: f2 :: r).zip (y :: ws)).reverse := by simp
    rw [e, upd_comm nda, upd_upd, upd_comm nda.symm, exd_eq (gs := (f1 :: f2 :: r).zip (y :: ws)) (zip_rev_lookup nd)]
    exact q d hd nda
theorem start_at {N : List Str} {vs : List V} {j : Nat} {u : V} (h : vs[j]? = some u) : (start N vs)[j]? = some (some u) := by
  unfold L2.start
  have hj : j < vs.length := (List.getElem?_eq_some_iff.mp h).1
  rw [List.getElem?_append_left (by simpa using hj), List.getElem?_map, h]
  rfl
theorem ExcT.lift {P : Program} {w : World} {K : PySem.W.Frag} {mg : Str → Option Value} {base : Heap} {j k : Nat} {x : Str} {C : Addr} {fs : List Str} (E : ExcT P w K mg base j x C fs) (h : j ≤ k) : ExcT P w K mg base k x C fs := by
  obtain ⟨⟨CX, f, fd, ps, T, hm, h1, h2, b, Fn, px⟩, few⟩ := E
  exact ⟨⟨CX, f, fd, ps, T, hm, h1, h2, b, Fn.mono h, px⟩, few⟩
/-- what is known of an exception class -/
structure XTop (mg : Str → Option Value) (x : Str) (C : Addr) : Prop where
  mg : mg x = some (.ref C)
end KQ
namespace KQ
open PySem PySem.Spec PyProof.Rows L2 TL KB
/-! ### calls with keywords -/
/-- constants as defaults -/
def cV : Tr → V
  | .bl b => .bl b
  | .int n => .int n
  | .str z => .str z
  | _ => .non
def kwV (kws : List (Str × Tr)) : List (Str × V) := kws.map fun q => (q.1, cV q.2)
/-- the parameters' values: of the written ones (0), the lacking ones (1), the keywords (2), by place -/
def pick {α : Type} (l : List (Nat × Nat)) (us mv ws : List α) : List α := l.filterMap fun p => if p.1 = 0 then us[p.2]? else if p.1 = 1 then mv[p.2]? else ws[p.2]?
theorem pick_0 {α : Type} {i : Nat} {l : List (Nat × Nat)} {us mv ws : List α} {x : α} (h : us[i]? = some x) : pick ((0, i) :: l) us mv ws = x :: pick l us mv ws := by
  unfold pick; rw [List.filterMap_cons]; simp only [if_true, h]
theorem pick_1 {α : Type} {i : Nat} {l : List (Nat × Nat)} {us mv ws : List α} {x : α} (h : mv[i]? = some x) : pick ((1, i) :: l) us mv ws = x :: pick l us mv ws := by
  unfold pick; rw [List.filterMap_cons]; simp [h]
theorem pick_2 {α : Type} {i : Nat} {l : List (Nat × Nat)} {us mv ws : List α} {x : α} (h : ws[i]? = some x) : pick ((2, i) :: l) us mv ws = x :: pick l us mv ws := by
  unfold pick; rw [List.filterMap_cons]; simp [h]
/-- a def with keyword-only parameters, as the top leaves it -/
structure DefK (K : PySem.W.Frag) (mg : Str → Option Value) (x : Str) (st : Stmt) (kws : List (Str × Tr)) : Prop where
  ex : ∃ (f : Addr) (fd : FuncData), FunD K x x (defArgs st) (defBody st) (defScope st) [] (kwV kws) f fd ∧ mg x = some (.ref f)
structure CalleeD (P : Program) (w : World) (K : PySem.W.Frag) (mg : Str → Option Value) (base : Heap) (k : Nat) (x : Str) (st : Stmt) (kws : List (Str × Tr)) (ps : List Str) (t : TSp) : Prop where
  ex : ∃ (f : Addr) (fd : FuncData), FunD K x x (defArgs st) (defBody st) (defScope st) [] (kwV kws) f fd ∧ mg x = some (.ref f) ∧ FnOk P w K mg base (L2N.CX P w) k f fd ps (lSp K t)
  mono : MonoSp t
section
variable {P : Program} {w : World} {K : PySem.W.Frag} {mg : Str → Option Value} {base : Heap} {x : Str} {st : Stmt} {kws : List (Str × Tr)} {ps : List Str} {t : TSp}
theorem CalleeD.lift {j k : Nat} (C : CalleeD P w K mg base j x st kws ps t) (h : j ≤ k) : CalleeD P w K mg base k x st kws ps t := by
  obtain ⟨⟨f, fd, F, g, O⟩, m⟩ := C
  exact ⟨⟨f, fd, F, g, O.mono h⟩, m⟩
theorem DefK.ok {N : List Str} {k : Nat} {us : US} (D : DefK K mg x st kws) (S : FnScope N ps (defScope st))
    (len : ∀ xs S Q X, t xs S Q X → xs.length = ps.length) (mono : MonoSp t) (body : BodyT P w K mg base k x st N us)
    (h : ∀ xs S Q X, Closed Q → ClosedX X → t xs S Q X → us (endU Q) (endX X) (startT N xs) S) : CalleeD P w K mg base (k + 1) x st kws ps t := by
  obtain ⟨f, fd, F, g⟩ := D.ex
  exact ⟨⟨f, fd, F, g, fnD_ok F S len body h⟩, mono⟩
end
section
variable {X : Cx} {W : WX} {e : Expr} {es : List Expr} {te : UE} {ta tk : UA} {nm : Option Str} {kpos p pos : Pos} {kl : List Keyword}
abbrev Pks := List (Nat × Nat)
def uCallK (n m : Nat) (l : Pks) (ms : List Tr) (tsp : TSp) (ta tk : UA) : UE := fun ρ S Q X => ta ρ S (fun xs S1 => tk ρ S1 (fun zs S2 => xs.length = n ∧ zs.length = m ∧ tsp (pick l xs ms zs) S2 Q X) X) X
end
end KQ
namespace KQ
open PySem PySem.Spec PyProof.Rows L2 TL KB ClX
/-! ### plain defs called by names -/
section
variable {X : Cx} {W : WX} {e : Expr} {es : List Expr} {te : UE} {ta tk : UA} {nm : Option Str} {kpos p pos : Pos} {kl : List Keyword}
end
/-! ### a constant of a class: C.f -/
def uCv (C : Addr) (t : Tr) (te : UE) : UE := fun ρ S Q X => te ρ S (fun x S1 => x = .ref C ∧ Q t S1) X
/-! ### strip -/
def gStrip (x : Tr) (ys : List Tr) (z : Tr) : Prop := match x, ys with
  | .str a, [] => a.length ≤ sizeLine ∧ z = .str (Txt.strip a)
  | _, _ => False
/-! ### upper -/
def gUpper (x : Tr) (ys : List Tr) (z : Tr) : Prop := match x, ys with
  | .str a, [] => a.length ≤ 5592405 ∧ z = .str (Txt.upper a)
  | _, _ => False
/-! ### a list repeated -/
def gRep (x y z : Tr) : Prop := match x, y with
  | .lst xs, .int k => -(2 ^ 63) ≤ k ∧ k < 2 ^ 63 ∧ xs.length * k.toNat ≤ sizeLine ∧ z = .lst (List.replicate k.toNat xs).flatten
  | _, _ => False
/-! ### x, y, .. = a list -/
def uAsgL (ps : List Pat) (te : UE) : US := fun D X ρ S => te ρ S (fun x S1 => ∃ xs, asL (vw S1 x) = some xs ∧ ∃ ρ2, patsR ps xs ρ = some ρ2 ∧ D.nx ρ2 S1) (atR X ρ)
/-! ### x, y, z = e1, e2, e3 -/
def uPar3 (i j l : Nat) (ta : UA) : US := fun D X ρ S => ta ρ S (fun xs S1 => ∃ x y z, xs = [x, y, z] ∧ D.nx (((ρ.set i (some x)).set j (some y)).set l (some z)) S1) (atR X ρ)
end KQ
namespace KQ
open PySem PySem.Spec PyProof.Rows L2 TL KB
/-! ### a list comprehension whose step may raise (the hand layer has none) -/
section
variable {M : Model} {A : Around} {E : Value → Shared → Prop} {s : Shared} {env : Env}
end
section
variable {M : Model} {A : Around} {E : Value → Shared → Prop} {s : Shared} {Z : Obj → Prop} {base : Heap} {env : Env} {outer l : List Env} {L e : Addr}
end
section
variable {X : Cx} {pins : List (Addr × Obj)} {σ : L2.St} {H : Hp}
end
section
variable {X : Cx}
end
section
variable {X : Cx}
end
/-! ### the same over trees -/
def uLcXL (ok : Sto → Prop) (p : Pat) (tt : UT) (te : UE) (ρ : Rho) (Q : QV) (X : QX) : List Tr → List Tr → Sto → Prop
  | [], acc, S => ok S ∧ Q (.lst acc) S
  | x :: xs, acc, S => ok S ∧ ∃ ρ2, patR p x ρ = some ρ2 ∧ tt ρ2 S (fun b S3 => if b = true then te ρ2 S3 (fun y S4 => acc.length < sizeLine ∧ uLcXL ok p tt te ρ Q X xs (acc ++ [y]) S4) X else uLcXL ok p tt te ρ Q X xs acc S3) X0
def uLcX (ui : UI) (p : Pat) (tt : UT) (te : UE) (vs : List Nat) : UE := fun ρ S Q X => ui ρ S (fun wk S1 => uLcXL wk.ok p tt te (wipeR ρ vs) Q X wk.xs [] S1) X
section
variable {X : Cx} {W : WX}
end
end KQ
namespace KQ
open PySem PySem.Spec PyProof.Rows L2 TL KB
/-! ### classes whose __init__ has keyword-only parameters: C(k = v, ..) -/
structure NewD (P : Program) (w : World) (K : PySem.W.Frag) (mg : Str → Option Value) (base : Heap) (k : Nat) (x : Str) (C : Addr) (qual : Str) (st : Stmt) (kws : List (Str × Tr)) (ps : List Str) (t : TSp) : Prop where
  ex : ∃ (f : Addr) (fd : FuncData) (tI : TSp), Mk K C f ∧ mg x = some (.ref C) ∧ FunD K "__init__" qual (defArgs st) (defBody st) (defScope st) [] (kwV kws) f fd ∧ FnOk P w K mg base (L2N.CX P w) k f fd ps (lSp K tI) ∧ MonoSp tI ∧
    ∀ xs S Q X, Closed Q → ClosedX X → t xs S Q X → ∀ a, S a = none → tI (.ref a :: xs) (put S a (.ins C [] [])) (fun v S2 => v = .non ∧ Q (.ref a) S2) X
  mono : MonoSp t
section
variable {P : Program} {w : World} {K : PySem.W.Frag} {mg : Str → Option Value} {base : Heap} {x qual : Str} {C : Addr} {st : Stmt} {kws : List (Str × Tr)} {ps : List Str} {t : TSp}
theorem NewD.lift {j k : Nat} (N : NewD P w K mg base j x C qual st kws ps t) (h : j ≤ k) : NewD P w K mg base k x C qual st kws ps t := by
  obtain ⟨⟨f, fd, tI, M, g, F, O, mI, q⟩, m⟩ := N
  exact ⟨⟨f, fd, tI, M, g, F, O.mono h, mI, q⟩, m⟩
end
def uNewK (m : Nat) (l : Pks) (ms : List Tr) (tsp : TSp) (tk : UA) : UE := fun ρ S Q X => tk ρ S (fun zs S2 => zs.length = m ∧ tsp (pick l [] ms zs) S2 Q X) X
section
variable {X : Cx} {W : WX} {k : Nat} {x qual : Str} {C : Addr} {st : Stmt} {kws : List (Str × Tr)} {ps ks : List Str} {ms : List (Str × Tr)} {l : Pks} {t : TSp} {kl : List Keyword} {tk : UA} {p pos : Pos}
end
end KQ
namespace KQ
open PySem PySem.Spec PyProof.Rows L2 TL KB
/-! ### == and != by an own __eq__ -/
section
variable {prog : Program} {w : World} {A : Around} {E : Value → Shared → Prop} {s : Shared} {K : PySem.W.Frag} {x C L f : Addr} {h₀ : Heap} {m : Str → Option Value} {ox : Obj} {od : Option Obj} {b tb : Value}
end
/-- x == y, x != y (n), x of a class with an own __eq__ that answers True or False -/
def uOEq (K : PySem.W.Frag) (n : Bool) (ms : Addr → TSp → Prop) (ta tb : UE) : UE := fun ρ S Q X => ta ρ S (fun x S1 => tb ρ S1 (fun y S2 => ∃ C fs xs t u, vw S2 x = .ins C fs xs ∧ ms C t ∧ tyT K (vw S2 y) u ∧ PySem.W.notFirst K C u = true ∧ t [x, y] S2 (fun z S3 => ∃ b, z = .bl b ∧ Q (.bl (n ^^ b)) S3) X) X) X
section
variable {X : Cx} {W : WX} {k : Nat} {ms : Addr → TSp → Prop} {a b : Expr} {ta tb : UE} {pos : Pos} {K : PySem.W.Frag}
end
end KQ
namespace KQ
open PySem PySem.Spec PyProof.Rows L2 TL KB
/-! ### str(None), str(True), list(a dict), x[::-1], list(x) that will change -/
section
variable {X : Cx} {W : WX} {K : PySem.W.Frag}
def rStr4 : List V → Hp → VK → Prop := fun vs H Q => KB.rStrA vs H Q ∨ (∃ b, vs = [.bl b] ∧ Q (.str (if b then Str.ofString "True" else Str.ofString "False")) H) ∨ (vs = [.non] ∧ Q (.str "None") H)
theorem str4 : CallR X (.type "str") rStr4 := by
  intro pins s σ H xs us Q I r h
  rcases h with h | ⟨b, rfl, q⟩ | ⟨rfl, q⟩
  · exact KB.str_any pins s σ H xs us Q I r h
  · obtain ⟨u, rfl, r1⟩ := vals1 r
    cases r1
    exact PySem.P.str_of_bool ⟨.str _, H, I.tok _, ⟨_, rfl⟩, q⟩
  · obtain ⟨u, rfl, r1⟩ := vals1 r
    cases r1
    exact PySem.P.str_of_none ⟨.str _, H, I.tok _, ⟨_, rfl⟩, q⟩
def gStr4 (xs : List Tr) (z : Tr) : Prop := match xs with
  | [.int i] => i.natAbs.log2 < 1920 ∧ z = .str (Str.ofString (toString i))
  | [.str a] => z = .str a
  | [.bl b] => z = .str (if b then Str.ofString "True" else Str.ofString "False")
  | [.non] => z = .str "None"
  | _ => False
theorem c_str4 : CallT K rStr4 gStr4 := by
  intro L F H S I xs z vs R hd r hg k
  unfold gStr4 at hg
  split at hg
  · rename_i i e0
    obtain ⟨x, rfl, e⟩ := map1 e0
    obtain ⟨v, rfl, r1⟩ := RepL.one r
    cases vw_eq_int hd r1 e
    obtain ⟨c, rfl⟩ := hg
    exact .inl (.inl ⟨i, rfl, c, k _ H I hd (Same.refl _) rfl⟩)
  · rename_i i e0
    obtain ⟨x, rfl, e⟩ := map1 e0
    obtain ⟨v, rfl, r1⟩ := RepL.one r
    cases vw_eq_str hd r1 e
    subst hg
    exact .inl (.inr ⟨i, rfl, k _ H I hd (Same.refl _) rfl⟩)
  · rename_i i e0
    obtain ⟨x, rfl, e⟩ := map1 e0
    obtain ⟨v, rfl, r1⟩ := RepL.one r
    cases vw_eq_bl hd r1 e
    subst hg
    exact .inr (.inl ⟨i, rfl, k _ H I hd (Same.refl _) rfl⟩)
  · rename_i e0
    obtain ⟨x, rfl, e⟩ := map1 e0
    obtain ⟨v, rfl, r1⟩ := RepL.one r
    cases vw_eq_non hd r1 e
    subst hg
    exact .inr (.inr ⟨rfl, k _ H I hd (Same.refl _) rfl⟩)
  · exact hg.elim
/-- what list(x) is made of -/
def seqOf : Tr → Option (List Tr)
  | .lst ys => some ys
  | .scr ns => some (ns.map Tr.int)
  | .tup ys => some ys
  | .dic ks _ => some (ks.map kT)
  | _ => none
def gList3 (xs : List Tr) (z : Tr) : Prop := match xs with
  | [x] => ∃ ys, seqOf x = some ys ∧ z = .lst ys
  | _ => False
def uListC (te : UE) : UE := fun ρ S Q X => te ρ S (fun x S1 => ∃ ys, seqOf (vw S1 x) = some ys ∧ ∀ p, S1 p = none → Q (.ref p) (put S1 p (.lst ys))) X
def uRev (te : UE) : UE := fun ρ S Q X => te ρ S (fun x S1 => ∃ xs, asL (vw S1 x) = some xs ∧ Q (.lst xs.reverse) S1) X
/-- a constant of the module, by its tree -/
theorem e_gt {x : Str} {tr : Tr} {pos : Pos} (hg : Gl X x) (h : ∃ v u, X.mg x = some u ∧ RelV v u ∧ ∀ I, Rep X.K I tr v) (hd : (x == ("__debug__" : Str)) = false := by decide) : TPE X W (.Name x pos) (uC tr) := by
  obtain ⟨v, u, g, r, q⟩ := h
  exact e_const (pe_glob (v := v) hg g r hd) q
theorem tup_rep {a : Addr} {d : Option Addr} {n : Nat} {sl : Array (Option Value)} {us : List Value} {vs : List V} {xs : List Tr} (h : K.lookup a = some ⟨.type "tuple", d, .seq us.toArray n, sl⟩) (r : Vals vs us) (q : ∀ I, RepL K I xs vs) (l : us.toArray.size ≤ sizeLine) (I : Hp) : Rep K I (.tup xs) (.ref a) :=
  ⟨a, vs, rfl, .inr ⟨_, us.toArray, n, h, rfl, rfl, l, by simpa using r⟩, q I⟩
/-- x.pop(i) -/
def gPopAt (S : Sto) (xs ys xs' : List Tr) (z : Tr) : Prop := ∃ i : Int, ys = [.int i] ∧ 0 ≤ i ∧ i < 2 ^ 63 ∧ xs[i.toNat]? = some z ∧ xs' = xs.eraseIdx i.toNat
/-! ### x == [], x != [] (n), whatever x holds -/
def rNil (K : PySem.W.Frag) (n : Bool) : R2 := fun x y H Q => ∃ a b xs, x = .ref a ∧ y = .ref b ∧ SqL K H a xs ∧ SqL K H b [] ∧ Q (.bl (n ^^ xs.isEmpty)) H
theorem nil_ok {pins : List (Addr × Obj)} {σ : L2.St} {H : Hp} {s : Shared} {a : Addr} {xs : List V} (I : L2.Inv X pins σ H s) (h : SqL X.K H a xs) : ∃ its : List Value, its.length = xs.length ∧ s.heap.IsList a its.toArray := by
  obtain ⟨its, r, p, _⟩ := I.list h
  exact ⟨its, r.length.symm, p.isList⟩
theorem eqnil_op {k : Nat} (hr : Room k X.A) : OpR X (compareOp .Eq) (rNil X.K false) := by
  intro pins s σ H x y v u Q I rx ry h
  obtain ⟨a, b, xs, rfl, rfl, h1, h2, q⟩ := h
  cases rx
  cases ry
  obtain ⟨its, l1, p1⟩ := nil_ok I h1
  obtain ⟨jts, l2, p2⟩ := nil_ok I h2
  have hj : jts = [] := by cases jts with | nil => rfl | cons _ _ => cases l2
  subst hj
  cases xs with
  | nil =>
    have hi : its = [] := by cases its with | nil => rfl | cons _ _ => cases l1
    subst hi
    exact SeqAt.eq_listAt (e := fun _ => true) p1 p2 rfl hr.units0 (fun j h => absurd h (by simp)) ⟨.bl true, H, I, rfl, q⟩
  | cons z zs => exact SeqAt.eq_list_lengthsAt p1 p2 (by rw [List.size_toArray, l1]; rfl) hr.units0 ⟨.bl false, H, I, rfl, q⟩
theorem nenil_op {k : Nat} (hr : Room k X.A) : OpR X (compareOp .NotEq) (rNil X.K true) := by
  intro pins s σ H x y v u Q I rx ry h
  obtain ⟨a, b, xs, rfl, rfl, h1, h2, q⟩ := h
  cases rx
  cases ry
  obtain ⟨its, l1, p1⟩ := nil_ok I h1
  obtain ⟨jts, l2, p2⟩ := nil_ok I h2
  have hj : jts = [] := by cases jts with | nil => rfl | cons _ _ => cases l2
  subst hj
  cases xs with
  | nil =>
    have hi : its = [] := by cases its with | nil => rfl | cons _ _ => cases l1
    subst hi
    exact SeqAt.RcNeAt.lists (e := fun _ => true) p1 p2 rfl hr.units0 (fun j h => absurd h (by simp)) _ _ _ _ ⟨.bl false, H, I, rfl, q⟩
  | cons z zs => exact SeqAt.RcNeAt.lists_lengths p1 p2 (by rw [List.size_toArray, l1]; rfl) hr.units0 _ _ _ _ ⟨.bl true, H, I, rfl, q⟩
def gNil (n : Bool) (x y z : Tr) : Prop := y = .lst [] ∧ ∃ xs, asL x = some xs ∧ z = .bl (n ^^ xs.isEmpty)
theorem o_nil {n : Bool} : OpT K (rNil K n) (gNil n) := by
  intro L F H S I x y z v w R hd rx ry hg k
  obtain ⟨e2, xs, e1, rfl⟩ := hg
  obtain ⟨a, us, rfl, h1, h2⟩ := asL_sq hd rx e1
  obtain ⟨b, ws, rfl, h3, h4⟩ := asL_sq hd ry (by rw [e2]; rfl)
  cases h4
  have e : us.isEmpty = xs.isEmpty := by have := h2.len; cases us <;> cases xs <;> first | rfl | cases this
  exact ⟨a, b, us, rfl, rfl, h1, h3, by rw [e]; exact k _ H I hd (Same.refl _) rfl⟩
/-! ### text * int -/
def rMl2 : R2 := fun x y H Q => KB.rMl x y H Q ∨ ∃ z n, x = .str z ∧ y = .int n ∧ MulOk z n ∧ Q (.str (Txt.mul z n)) H
theorem ml2_op : OpR X (binaryOp .Mult) rMl2 := by
  refine OpR.or KB.ml_any ?_
  intro pins s σ H x y v u Q I rx ry h
  obtain ⟨z, n, rfl, rfl, hz, q⟩ := h
  obtain ⟨t, rfl⟩ := rx
  obtain ⟨t', rfl⟩ := ry
  exact SB.mul hz fun t' k => ⟨.str (Txt.mul z n), H, I.tok _, ⟨_, rfl⟩, q⟩
def gMul2 (x y z : Tr) : Prop := match x, y with
  | .str a, .int n => MulOk a n ∧ z = .str (Txt.mul a n)
  | x, y => gMul x y z
theorem o_mul2 : OpT K rMl2 gMul2 := by
  intro L F H S I x y z v w R hd rx ry hg k
  unfold gMul2 at hg
  split at hg
  · rename_i a n e1 e2
    cases vw_eq_str hd rx e1
    cases vw_eq_int hd ry e2
    obtain ⟨c, rfl⟩ := hg
    exact .inr ⟨a, n, rfl, rfl, c, k _ H I hd (Same.refl _) rfl⟩
  · exact .inl (o_mul hd rx ry hg k)
end
end KQ
/-! ### enumerate(a tuple) -/
namespace KQ
open PySem PySem.Spec PyProof.Rows L2 TL KB
/-- enumerate(x), x a list or a tuple -/
def uEnum2 (ta : UA) : UI := fun ρ S R X => ta ρ S (fun ys S1 => ∃ x xs, ys = [x] ∧ (asL (vw S1 x) = some xs ∨ vw S1 x = .tup xs) ∧ R ⟨enumT 0 xs, fun S' => vw S' x = vw S1 x⟩ S1) X
end KQ
namespace KQ
open PySem PySem.Spec PyProof.Rows L2 TL KB
/-! ### zip of two lists or of two tuples -/
def zipT (xs ys : List Tr) : List Tr := List.zipWith (fun x y => Tr.tup [x, y]) xs ys
def uZip (ta : UA) : UI := fun ρ S R X => ta ρ S (fun us S1 => ∃ x y xs ys, us = [x, y] ∧ ((asL (vw S1 x) = some xs ∧ asL (vw S1 y) = some ys) ∨ (vw S1 x = .tup xs ∧ vw S1 y = .tup ys)) ∧ R ⟨zipT xs ys, fun S' => vw S' x = vw S1 x ∧ vw S' y = vw S1 y⟩ S1) X
end KQ
namespace KQ
open PySem PySem.Spec PyProof.Rows L2 TL KB
/-! ### f'{x:<16}' and f'{n:>8,}' -/
def padR (x : PySem.Str) (n : Nat) : PySem.Str := x ++ ⟨(List.replicate (n - x.length) 32).toArray⟩
def digs (a : Int) : List Nat := (Nat.toDigits 10 a.natAbs).map Char.toNat
def grp (ds : List Nat) : List Nat := groupsFromRight' 3 44 (ds.length + 1) ds.reverse 0 []
def numT (a : Int) : PySem.Str := ⟨(List.replicate (8 - (grp (digs a)).length) 32 ++ grp (digs a)).toArray⟩
/-! ### groups of three, from the left -/
theorem fold_sp (n : Nat) (a : Array Nat) : (List.replicate n #[32]).foldl (· ++ ·) a = a ++ (List.replicate n 32).toArray := by
  induction n generalizing a with
  | zero => simp
  | succ n ih => rw [List.replicate_succ, List.foldl_cons, ih, List.replicate_succ]; apply Array.toList_inj.mp; simp
theorem tmul_sp (m : Int) : Txt.mul (Str.ofString " ") m = ⟨(List.replicate m.toNat 32).toArray⟩ := by
  unfold Txt.mul
  split
  · rename_i h
    rw [show m.toNat = 0 by omega]; rfl
  · rename_i h
    split
    · rename_i e
      rcases Bool.or_eq_true _ _ |>.mp e with e | e
      · have : m = 1 := by simpa using e
        subst this; rfl
      · exact absurd e (by decide)
    · show (⟨(List.replicate m.toNat #[32]).foldl (· ++ ·) #[]⟩ : Str) = _
      rw [fold_sp]; simp
/-! ### f-strings over trees -/
section
variable {X : Cx} {W : WX} {K : PySem.W.Frag}
def gFmtS (x z : Tr) : Prop := ∃ y : PySem.Str, x = .str y ∧ y.length ≤ 1000 ∧ z = .str (padR y 16)
def gFmtN (x z : Tr) : Prop := ∃ i : Int, x = .int i ∧ 0 ≤ i ∧ i.natAbs.log2 < 1920 ∧ (numT i).length ≤ sizeLine ∧ z = .str (numT i)
def gFmt (x z : Tr) : Prop := (∃ y : PySem.Str, x = .str y ∧ y.length ≤ sizeLine ∧ z = .str y) ∨ ∃ i : Int, x = .int i ∧ i.natAbs.log2 < 1920 ∧ z = .str (toString i)
/-- list + list, the new list will change -/
def uAddC (ta tb : UE) : UE := fun ρ S Q X => ta ρ S (fun x S1 => tb ρ S1 (fun y S2 => ∃ xs ys, vw S2 x = .lst xs ∧ vw S2 y = .lst ys ∧ xs.length + ys.length ≤ sizeLine ∧ ∀ p, S2 p = none → Q (.ref p) (put S2 p (.lst (xs ++ ys)))) X) X
theorem e_addC {a b : Expr} {ta tb : UE} {pos : Pos} (ha : TPE X W a ta) (hb : TPE X W b tb) : TPE X W (.BinOp a .Add b pos) (uAddC ta tb) :=
  ⟨wkE (pe_op ad_op ha.pe hb.pe) fun σ H R ⟨L, F, S, I, ρ, hd, sl, h⟩ =>
    lE_then ha.mono hd sl h (fun _ _ _ _ h => h) fun x S1 v H1 I1 q1 hd1 s1 sl1 rx => lE_then hb.mono hd1 sl1 q1 (dnX_up s1) fun y S2 w H2 I2 ⟨xs, ys, e1, e2, c, q2⟩ hd2 s2 sl2 ry => by
      obtain ⟨a1, vs, rfl, h1, h2⟩ := vw_lst hd2 (rx.mono s2) e1
      obtain ⟨b1, ws, rfl, h3, h4⟩ := vw_lst hd2 ry e2
      exact .inl (.inr (.inr ⟨a1, b1, vs, ws, rfl, rfl, h1, h3, by rw [h2.len, h4.len]; exact c, fun p np => q2 p (hd2.freeS np) _ _ _ (hd2.cell np ⟨vs ++ ws, rfl, h2.app h4⟩) (s1.trans s2) rfl⟩)),
    fun ρ S Q Q' X X' hQ hX h => ha.mono _ _ _ _ _ _ (fun x S1 h1 => hb.mono _ _ _ _ _ _ (fun y S2 ⟨xs, ys, e1, e2, c, q⟩ => ⟨xs, ys, e1, e2, c, fun p hp => hQ _ _ (q p hp)⟩) hX h1) hX h⟩
/-- the parts -/
inductive TPJ (X : Cx) (W : WX) : List Expr → List UE → Prop where
  | nil : TPJ X W [] []
  | cons {e : Expr} {t : UE} {es : List Expr} {ts : List UE} (h : TPE X W e t) (r : TPJ X W es ts) : TPJ X W (e :: es) (t :: ts)
def uJs : List UE → PySem.Str → Rho → Sto → (PySem.Str → Sto → Prop) → QX → Prop
  | [], acc, _, S, Q, _ => Q acc S
  | t :: ts, acc, ρ, S, Q, X => t ρ S (fun x S1 => ∃ y : PySem.Str, x = .str y ∧ (acc ++ y).length ≤ sizeLine ∧ uJs ts (acc ++ y) ρ S1 Q X) X
def uFs (ts : List UE) : UE := fun ρ S Q X => uJs ts Str.empty ρ S (fun z S1 => Q (.str z) S1) X
theorem TPJ.mono {es : List Expr} {ts : List UE} (h : TPJ X W es ts) : ∀ t ∈ ts, MonoE t := by
  induction h with
  | nil => exact fun _ h => nomatch h
  | cons h r ih =>
    intro t ht
    rcases List.mem_cons.mp ht with rfl | ht
    · exact h.mono
    · exact ih t ht
end
end KQ
namespace KQ
open PySem PySem.Spec PyProof.Rows L2 TL KB
/-! ### x op y of two unlike classes -/
section
open PySem.W
variable {prog : Program} {w : World} {A : Around} {E : Value → Shared → Prop} {s : Shared} {K : Frag} {x C D L f g : Addr} {h₀ : Heap} {m : Str → Option Value} {ox : Obj} {od : Option Obj}
end
/-- what a class must have for op, beside the method -/
structure OwnBin (K : PySem.W.Frag) (op : Operator) (C D : Addr) : Prop where
  sf : PySem.W.selfFirst K C = true
  sd : PySem.W.selfFirst K D = true
  ne : C ≠ D → PySem.W.findIn K (.ref C) (dunderR op.info.2) = some none ∧ (∃ g, PySem.W.findIn K (.ref D) (PySem.dunder op.info.2) = some (some (.ref g))) ∧ PySem.W.findIn K (.ref D) (dunderR op.info.2) = some none ∧ PySem.W.subIn K (.ref D) (.ref C) = some false
/-- x op y, each of a class of its own -/
def uOBin2 (K : PySem.W.Frag) (op : Operator) (ms : Addr → TSp → Prop) (ta tb : UE) : UE := fun ρ S Q X => ta ρ S (fun x S1 => tb ρ S1 (fun y S2 => ∃ C D fs xs gs zs t, vw S2 x = .ins C fs xs ∧ vw S2 y = .ins D gs zs ∧ OwnBin K op C D ∧ ms C t ∧ t [x, y] S2 Q X) X) X
section
variable {X : Cx} {W : WX} {K : PySem.W.Frag} {k : Nat} {ms : Addr → TSp → Prop} {a b : Expr} {ta tb : UE} {pos : Pos}
end
/-! ### ~x -/
def uOInv (ms : Addr → TSp → Prop) (ta : UE) : UE := fun ρ S Q X => ta ρ S (fun x S1 => ∃ C fs xs t, vw S1 x = .ins C fs xs ∧ ms C t ∧ t [x] S1 Q X) X
section
variable {X : Cx} {W : WX} {k : Nat} {ms : Addr → TSp → Prop} {a e : Expr} {es : List Expr} {ta tf : UE} {tr : UA} {p pos : Pos} {x : Str}
/-! ### an object called -/
def uCallO (ms : Addr → TSp → Prop) (tf : UE) (ta : UA) : UE := fun ρ S Q X => tf ρ S (fun x S1 => (∃ C fs xs, vw S1 x = .ins C fs xs) ∧ ta ρ S1 (fun ys S2 => ∃ C gs zs t, vw S2 x = .ins C gs zs ∧ ms C t ∧ t (x :: ys) S2 Q X) X) X
end
/-! ### index and count of flat items, reverse, clear -/
section
variable {K : PySem.W.Frag}
theorem RepL.reverse {I : Hp} : ∀ {xs : List Tr} {vs : List V}, RepL K I xs vs → RepL K I xs.reverse vs.reverse
  | [], _, h => by cases h; exact rfl
  | x :: xs, _, h => by
    obtain ⟨v, ws, rfl, h1, h2⟩ := h
    rw [List.reverse_cons, List.reverse_cons]
    exact h2.reverse.app (.cons h1 rfl)
end
/-! ### an __init__ that only keeps its parameters -/
def plN (C : Addr) (fs : List Str) : TSp := fun xs S Q X => xs.length = fs.length ∧ Q (.ins C fs xs) S
theorem q_plN {C : Addr} {fs : List Str} {xs : List Tr} {S : Sto} {Q : QV} {X : QX} : plN C fs xs S Q X = (xs.length = fs.length ∧ Q (.ins C fs xs) S) := propext Iff.rfl
end KQ
namespace KQ
open PySem PySem.Spec PyProof.Rows L2 TL KB
/-! ### a stable sort -/
section
variable {α β : Type} {lt : α → α → Bool}
def insS (lt : α → α → Bool) (x : α) : List α → List α
  | [] => [x]
  | y :: ys => if lt y x = true then y :: insS lt x ys else x :: y :: ys
def isort (lt : α → α → Bool) : List α → List α
  | [] => []
  | x :: xs => insS lt x (isort lt xs)
theorem insS_perm (x : α) : ∀ l, (insS lt x l).Perm (x :: l)
  | [] => List.Perm.refl _
  | y :: ys => by
    unfold insS
    split
    · exact ((insS_perm x ys).cons y).trans (List.Perm.swap x y ys)
    · exact List.Perm.refl _
theorem isort_perm : ∀ l : List α, (isort lt l).Perm l
  | [] => List.Perm.refl _
  | x :: xs => (insS_perm x _).trans ((isort_perm xs).cons x)
theorem insS_srtd (O : SrtO.Swo lt) (x : α) : ∀ l, SrtO.Srtd lt l → SrtO.Srtd lt (insS lt x l)
  | [], _ => List.pairwise_singleton _ _
  | y :: ys, h => by
    have h' := List.pairwise_cons.mp h
    unfold insS
    split
    · rename_i e
      refine List.pairwise_cons.mpr ⟨fun z hz => ?_, insS_srtd O x ys h'.2⟩
      rcases List.mem_cons.mp ((insS_perm x ys).mem_iff.mp hz) with rfl | hz
      · exact O.asym _ _ e
      · exact h'.1 z hz
    · rename_i e
      have e : lt y x = false := by simpa using e
      refine List.pairwise_cons.mpr ⟨fun z hz => ?_, h⟩
      rcases List.mem_cons.mp hz with rfl | hz
      · exact e
      · exact O.tr _ _ _ e (h'.1 z hz)
theorem isort_srtd (O : SrtO.Swo lt) : ∀ l : List α, SrtO.Srtd lt (isort lt l)
  | [] => List.Pairwise.nil
  | x :: xs => insS_srtd O x _ (isort_srtd O xs)
end
/-- texts by their signs -/
def ltS (a b : Str) : Bool := decide (a.cps.toList < b.cps.toList)
theorem swoS : SrtO.Swo ltS where
  asym := fun x y h => decide_eq_false (fun q => List.lt_asymm (of_decide_eq_true h) q)
  tr := fun x y z h1 h2 => decide_eq_false (fun q => by
    have a := of_decide_eq_false h1
    have b := of_decide_eq_false h2
    exact absurd q (List.not_lt.mpr (List.le_trans (List.not_lt.mp a) (List.not_lt.mp b))))
/-! ### lambdas -/
/-- a maker's table of code objects, all of them of the name q -/
def codT (q : Str) : Tr := .sem fun I _ o => ∃ ps : Array Value, o = .tbl ps ∧ TriplesOk ps.toList ∧ ∀ (pos : Pos) (cv : Value), codeAmong pos ps.toList = some cv → ∃ c, cv = .ref c ∧ I c = some (LamX.CodeO c q)
section
variable {X : Cx} {pins : List (Addr × Obj)} {σ : L2.St} {H I0 F : Hp} {L : Lk} {S : Sto} {s : Shared}
end
end KQ
namespace KQ
open PySem PySem.Spec PyProof.Rows L2 TL KB
/-! ### sorted(xs, key=a lambda that gives texts) -/
section
variable {prog : Program} {w : World} {A : Around} {E : Value → Shared → Prop} {s : Shared} {kS D : Addr} {keys : Array Value} {vs : List Value} {e e1 : Nat} {P : PySem.Fin → Shared → Prop}
end
end KQ
namespace KQ
open PySem PySem.Spec PyProof.Rows L2 TL KB
def ltT (key : Tr → Str) (x y : Tr) : Bool := ltS (key x) (key y)
section
variable {X : Cx} {W : WX}
end
end KQ
namespace KQ
open PySem PySem.Spec PyProof.Rows L2 TL KB
/-! ### a method that makes lambdas: its code object at c, the table of it at t -/
section
variable {P : Program} {w : World} {K : PySem.W.Frag} {mg : Str → Option Value} {base : Heap}
end
/-! ### sorted by a lambda -/
section
variable {X : Cx} {W : WX}
def uSrt (P : Addr) (q : Str) (tl tb : UE) : UE := fun ρ S Q X => tl ρ S (fun x S1 => S1 P = some (codT q) ∧ ∃ (xs : List Tr) (key : Tr → Str), vw S1 x = .lst xs ∧ xs.length ≤ 100000 ∧ (∀ y ∈ xs, tb [some y] S1 (fun z S2 => z = .str (key y) ∧ S2 = S1) X0) ∧ Q (.lst (isort (ltT key) xs)) S1) X
/-! ### texts compared -/
def gLeS (x y z : Tr) : Prop := match x, y with
  | .str i, .str j => z = .bl (!ltS j i)
  | _, _ => False
/-! ### sets of texts and integers -/
def uSet0 (P : Program) (w : World) : UE := fun _ S Q _ => ∀ p, S p = none → Q (.ref p) (put S p (.opq (SetK P w p (fun _ => false) 0)))
def uSAdd (P : Program) (w : World) (to ta : UE) : UE := fun ρ S Q X => to ρ S (fun x S1 => (∃ p f n, x = .ref p ∧ S1 p = some (.opq (SetK P w p f n))) ∧ ta ρ S1 (fun y S2 => ∃ p k f n, x = .ref p ∧ y = kT k ∧ S2 p = some (.opq (SetK P w p f n)) ∧ n + 1 < scanBound ∧ Q .non (put S2 p (.opq (SetK P w p (fun j => f j || decide (j = k)) (if f k = true then n else n + 1))))) X) X
def uSIn (P : Program) (w : World) (ta tb : UE) : UE := fun ρ S Q X => ta ρ S (fun x S1 => tb ρ S1 (fun y S2 => ∃ p k f n, y = .ref p ∧ x = kT k ∧ S2 p = some (.opq (SetK P w p f n)) ∧ Q (.bl (f k)) S2) X) X
end
end KQ
namespace KQ
open PySem PySem.Spec PyProof.Rows L2 TL KB
/-! ### sorted(rows), rows tuples that begin with a text and an integer, no two alike in both -/
def lexS (p q : Str × Int) : Bool := if p.1 = q.1 then decide (p.2 < q.2) else ltS p.1 q.1
def IsRow (h : Heap) (v : Value) (x : Str) (y : Int) : Prop := ∃ a o t u rest n, v = .ref a ∧ h.get? a = some o ∧ o.cls = .type "tuple" ∧ o.data = .seq (List.toArray (.str x t :: .int y u :: rest)) n
theorem IsRow.keeps {h h' : Heap} {v : Value} {x : Str} {y : Int} (p : IsRow h v x y) (k : ∀ b o, h.get? b = some o → o.cls = .type "tuple" → h'.get? b = some o) : IsRow h' v x y := by
  obtain ⟨a, o, t, u, r, n, e, ho, hc, hd⟩ := p
  exact ⟨a, o, t, u, r, n, e, k _ _ ho hc, hc, hd⟩
section
variable {prog : Program} {w : World} {A : Around} {E : Value → Shared → Prop} {s : Shared}
end
/-! ### over trees -/
def rowK : Tr → Str × Int
  | .tup (.str z :: .int n :: _) => (z, n)
  | _ => (Str.ofString "", 0)
def rowT (y : Tr) : Prop := ∃ z n rest, y = .tup (.str z :: .int n :: rest)
def gSortR (xs : List Tr) (z : Tr) : Prop := match xs with
  | [.lst ys] => (∀ y ∈ ys, rowT y) ∧ (ys.map rowK).Nodup ∧ z = .lst (isort (fun a b => lexS (rowK a) (rowK b)) ys)
  | _ => False
/-! ### a < b < c -/
def uChain (g g' : Tr → Tr → Tr → Prop) (ta tb tc : UE) : UE := fun ρ S Q X => ta ρ S (fun x S1 => tb ρ S1 (fun y S2 => ∃ k, g (vw S2 x) (vw S2 y) (.bl k) ∧ if k = true then tc ρ S2 (fun u S3 => ∃ z, g' (vw S3 y) (vw S3 u) z ∧ Q z S3) X else Q (.bl false) S2) X) X
section
variable {X : Cx} {W : WX} {ta tb tc : UE} {a b c : Expr} {pos : Pos}
end
end KQ
namespace KQ
open PySem PySem.Spec PyProof.Rows L2 TL KB
/-! ### a dict of the module, asked by get -/
structure KTab (K : PySem.W.Frag) (w : World) (mg : Str → Option Value) (x : Str) (kvs : List (Str × Tr)) : Prop where
  ex : ∃ d es n, mg x = some (.ref d) ∧ KDict K w d es n ∧ ∀ z, (kvs.lookup z = none ∧ PySem.W.nsIn K d z = some none) ∨ ∃ t u v, kvs.lookup z = some t ∧ PySem.W.nsIn K d z = some (some u) ∧ RelV v u ∧ ∀ I, Rep K I t v
section
variable {X : Cx} {W : WX} {e f : Expr} {p apos cpos : Pos}
abbrev KvT : Type := List (Str × Tr)
def uKGet (kvs : KvT) (te tf : UE) : UE := fun ρ S Q X => te ρ S (fun x S1 => tf ρ S1 (fun y S2 => ∃ z : Str, x = .str z ∧ Q ((kvs.lookup z).getD y) S2) X) X
end
end KQ
namespace KQ
open PySem PySem.Spec PyProof.Rows L2 TL KB
/-! ### exceptions raised while another one is handled: their context is no longer None -/
/-! ### raise C(..) from the handled one -/
/-! ### a try whose one clause raises -/
section
variable {X : Cx} {pins : List (Addr × Obj)} {σ : L2.St} {H : Hp} {s : Shared}
end
/-! ### an own exception made while another one is handled -/
structure ExcH (P : Program) (w : World) (K : PySem.W.Frag) (mg : Str → Option Value) (base : Heap) (k : Nat) (x : Str) (C : Addr) (fs : List Str) : Prop where
  ex : ∃ (CX : CXT) (f : Addr) (fd : FuncData) (ps : List Str), OexC K C ∧ mg x = some (.ref C) ∧ PySem.W.findIn K (.ref C) "__init__" = some (some (.ref f)) ∧ PySem.W.typeIn K (.ref f) = some (.type "function") ∧ Binds K fd ps [] ∧ L2H.FnH P w K mg base CX k f fd ps (spX C fs) ∧ (∀ X : Cx, Passes CX X (fun _ _ _ => False))
  few : fs.length ≤ 1000
theorem ExcH.lift {P : Program} {w : World} {K : PySem.W.Frag} {mg : Str → Option Value} {base : Heap} {j k : Nat} {x : Str} {C : Addr} {fs : List Str} (E : ExcH P w K mg base j x C fs) (h : j ≤ k) : ExcH P w K mg base k x C fs := by
  obtain ⟨⟨CX, f, fd, ps, T, hm, h1, h2, b, Fn, px⟩, few⟩ := E
  exact ⟨⟨CX, f, fd, ps, T, hm, h1, h2, b, ⟨Fn.len, fun A outer s H args us vs Q E p hr => Fn.run A outer s H args us vs Q E p (hr.mono h)⟩, px⟩, few⟩
/-! ### try: .. except X as n: raise C(..) from n -/
def xFrm (K : PySem.W.Frag) (c : Value) (i : Nat) (C : Addr) (fs : List Str) (ta : Addr → Addr → Value → UA) (X : XS) : XS := fun k gs xs ρ S => ∃ y, PySem.W.exmOne K k c = some y ∧
  (y = true → (∃ B, k = .ref B ∧ ExcC K B) ∧ i < ρ.length ∧ ∀ e d, ta e d k (ρ.set i (some (.exc e d k gs xs))) S (fun ys S2 => ys.length = fs.length ∧ X (.ref C) fs ys (ρ.set i none) S2) X0) ∧ (y = false → X k gs xs ρ S)
def uTryF (K : PySem.W.Frag) (tb : US) (c : Value) (i : Nat) (C : Addr) (fs : List Str) (ta : Addr → Addr → Value → UA) : US := fun D X ρ S => tb D (xFrm K c i C fs ta X) ρ S
/-! ### defs whose exceptions have any context -/
structure MthZ (P : Program) (w : World) (K : PySem.W.Frag) (mg : Str → Option Value) (base : Heap) (k : Nat) (C : Addr) (m : Str) (t : TSp) : Prop where
  ex : ∃ (f : Addr) (fd : FuncData) (ps : List Str), Meth K C m f ∧ Binds K fd ps [] ∧ FnOk P w K mg base (L2.CX P w) k f fd ps (lSp K t)
  cl : Cls K C
  mono : MonoSp t
theorem MthZ.lift {P : Program} {w : World} {K : PySem.W.Frag} {mg : Str → Option Value} {base : Heap} {j k : Nat} {C : Addr} {m : Str} {t : TSp} (M : MthZ P w K mg base j C m t) (h : j ≤ k) : MthZ P w K mg base k C m t := by
  obtain ⟨⟨f, fd, ps, a, b, F⟩, c, d⟩ := M
  exact ⟨⟨f, fd, ps, a, b, F.mono h⟩, c, d⟩
/-- such a method called where its exceptions are caught -/
def uMethZ (b : Bool) (C : Addr) (m : Str) (t : TSp) (to : UE) (ta : UA) : UE := fun ρ S Q X => to ρ S (fun x S1 => ∃ fs xs, vw S1 x = .ins C fs xs ∧ fget m fs xs = none ∧ ta ρ S1 (fun ys S2 => t (x :: ys) S2 Q (if b = true then X else X0)) X) X
/-! ### a try whose body lets out exceptions of any context, all caught -/
inductive HdZ (X : Cx) : List ExceptHandler → List (Value × Option Nat × Sut) → Prop
  | nil : HdZ X [] []
  | only {x : Str} {c : Value} {u : Sut} {b : Stmt} {bs : List Stmt} {p1 p2 : Pos} {hs : List ExceptHandler} {l : List (Value × Option Nat × Sut)} (nm : Names X x c)
      (su : ∀ (e : Addr) (o : Obj) (k : Value) (d : Option Addr) (pn : List (Addr × Obj)), Zc k d o → (∃ fs, o.data = .fields fs) → PSs (X.suite e ((e, o) :: pn)) (b :: bs) (u e k d)) (r : HdZ X hs l) :
      HdZ X (.ExceptHandler (some (.Name x p1)) none (b :: bs) p2 :: hs) ((c, none, u) :: l)
  | named {x n : Str} {i : Nat} {c : Value} {u : Sut} {b : Stmt} {bs : List Stmt} {p1 p2 : Pos} {hs : List ExceptHandler} {l : List (Value × Option Nat × Sut)} (nd : X.N.Nodup) (at_ : X.N[i]? = some n) (lc : X.env.kindOf n = some .local) (nm : Names X x c)
      (su : ∀ (e : Addr) (o : Obj) (k : Value) (d : Option Addr) (pn : List (Addr × Obj)), Zc k d o → (∃ fs, o.data = .fields fs) → PSs (X.suite e ((e, o) :: pn)) (b :: bs) (u e k d)) (r : HdZ X hs l) :
      HdZ X (.ExceptHandler (some (.Name x p1)) (some n) (b :: bs) p2 :: hs) ((c, some i, u) :: l)
inductive HdTZ (X : Cx) : List ExceptHandler → List (Value × Option Nat × SuU) → Prop
  | nil : HdTZ X [] []
  | only {x : Str} {c : Value} {u : SuU} {b : Stmt} {bs : List Stmt} {p1 p2 : Pos} {hs : List ExceptHandler} {l : List (Value × Option Nat × SuU)} (nm : Names X x c)
      (su : ∀ (e d : Addr) (o : Obj) (k : Value) (pn : List (Addr × Obj)), Zc k (some d) o → (∃ fs, o.data = .fields fs) → TPSs (X.suite e ((e, o) :: pn)) W0 (b :: bs) (u e d k)) (r : HdTZ X hs l) :
      HdTZ X (.ExceptHandler (some (.Name x p1)) none (b :: bs) p2 :: hs) ((c, none, u) :: l)
  | named {x n : Str} {i : Nat} {c : Value} {u : SuU} {b : Stmt} {bs : List Stmt} {p1 p2 : Pos} {hs : List ExceptHandler} {l : List (Value × Option Nat × SuU)} (nd : X.N.Nodup) (at_ : X.N[i]? = some n) (lc : X.env.kindOf n = some .local) (nm : Names X x c)
      (su : ∀ (e d : Addr) (o : Obj) (k : Value) (pn : List (Addr × Obj)), Zc k (some d) o → (∃ fs, o.data = .fields fs) → TPSs (X.suite e ((e, o) :: pn)) W0 (b :: bs) (u e d k)) (r : HdTZ X hs l) :
      HdTZ X (.ExceptHandler (some (.Name x p1)) (some n) (b :: bs) p2 :: hs) ((c, some i, u) :: l)
theorem lowZ {X : Cx} {u : SuU} {sts : List Stmt} {e : Addr} {o : Obj} {k : Value} {d : Option Addr} {pn : List (Addr × Obj)} (su : ∀ d, Zc k (some d) o → TPSs (X.suite e ((e, o) :: pn)) W0 sts (u e d k)) (z : Zc k d o) : PSs (X.suite e ((e, o) :: pn)) sts (lowS X.K u e k d) :=
  ⟨fun pins s σ H D I ⟨dd, ed, q⟩ => by subst ed; exact (su dd z).pe.run pins s σ H D I q⟩
theorem HdTZ.low {X : Cx} {hs : List ExceptHandler} {l : List (Value × Option Nat × SuU)} (h : HdTZ X hs l) : HdZ X hs (liftH X.K l) := by
  induction h with
  | nil => exact .nil
  | only nm su r ih => exact .only nm (fun e o k d pn z f => lowZ (fun dd z => su e dd o k pn z f) z) ih
  | named nd at_ lc nm su r ih => exact .named nd at_ lc nm (fun e o k d pn z f => lowZ (fun dd z => su e dd o k pn z f) z) ih
theorem HdTZ.mono {X : Cx} {hs : List ExceptHandler} {l : List (Value × Option Nat × SuU)} (h : HdTZ X hs l) : MonoH l := by
  induction h with
  | nil => exact .nil
  | only nm su r ih => exact .cons (fun e d k => (su e d ⟨k, some d, .fields #[.none, .none, .none], #[]⟩ k [] ⟨rfl, rfl⟩ ⟨_, rfl⟩).mono) ih
  | named nd at_ lc nm su r ih => exact .cons (fun e d k => (su e d ⟨k, some d, .fields #[.none, .none, .none], #[]⟩ k [] ⟨rfl, rfl⟩ ⟨_, rfl⟩).mono) ih
def uTryZ (K : PySem.W.Frag) (tb : US) (l : List (Value × Option Nat × SuU)) : US := fun D _ ρ S => tb D (hX K D XS0 l) ρ S
/-! ### C.m(x, k = v, ..): a method read off its class -/
structure MthU (P : Program) (w : World) (K : PySem.W.Frag) (mg : Str → Option Value) (base : Heap) (k : Nat) (x : Str) (C : Addr) (m qual : Str) (st : Stmt) (kws : List (Str × Tr)) (ps : List Str) (t : TSp) : Prop where
  ex : ∃ (f : Addr) (fd : FuncData) (mc : Value), mg x = some (.ref C) ∧ ClX.CRead K C mc ∧ ClX.CVal K C mc m (.ref f) (.ref f) ∧ FunD K m qual (defArgs st) (defBody st) (defScope st) [] (kwV kws) f fd ∧ FnOk P w K mg base (L2N.CX P w) k f fd ps (lSp K t)
  mono : MonoSp t
theorem MthU.lift {P : Program} {w : World} {K : PySem.W.Frag} {mg : Str → Option Value} {base : Heap} {j k : Nat} {x : Str} {C : Addr} {m qual : Str} {st : Stmt} {kws : List (Str × Tr)} {ps : List Str} {t : TSp} (M : MthU P w K mg base j x C m qual st kws ps t) (h : j ≤ k) : MthU P w K mg base k x C m qual st kws ps t := by
  obtain ⟨⟨f, fd, mc, a, b, c, d, F⟩, e⟩ := M
  exact ⟨⟨f, fd, mc, a, b, c, d, F.mono h⟩, e⟩
/-- what is known of such a method -/
structure DefU (K : PySem.W.Frag) (C : Addr) (m qual : Str) (st : Stmt) (kws : List (Str × Tr)) : Prop where
  ex : ∃ (f : Addr) (fd : FuncData) (mc : Value), ClX.CRead K C mc ∧ ClX.CVal K C mc m (.ref f) (.ref f) ∧ FunD K m qual (defArgs st) (defBody st) (defScope st) [] (kwV kws) f fd
theorem DefU.ok {P : Program} {w : World} {K : PySem.W.Frag} {mg : Str → Option Value} {base : Heap} {x : Str} {C : Addr} {m qual : Str} {st : Stmt} {kws : List (Str × Tr)} {N ps : List Str} {k : Nat} {t : TSp} {us : US} (D : DefU K C m qual st kws) (g : mg x = some (.ref C)) (S : FnScope N ps (defScope st))
    (len : ∀ xs S Q X, t xs S Q X → xs.length = ps.length) (mono : MonoSp t) (body : BodyT P w K mg base k qual st N us)
    (h : ∀ xs S Q X, Closed Q → ClosedX X → t xs S Q X → us (endU Q) (endX X) (startT N xs) S) : MthU P w K mg base (k + 1) x C m qual st kws ps t := by
  obtain ⟨f, fd, mc, a, b, F⟩ := D.ex
  exact ⟨⟨f, fd, mc, g, a, b, F, fnD_ok F S len body h⟩, mono⟩
section
variable {X : Cx} {W : WX} {k n : Nat} {x m qual : Str} {C : Addr} {st : Stmt} {kws : List (Str × Tr)} {ps ks : List Str} {ms : List (Str × Tr)} {l : List (Nat × Nat)} {t : TSp} {e : Expr} {es : List Expr} {kl : List Keyword} {ta tk : UA} {p apos pos : Pos}
end
/-! ### classmethods -/
structure DefC (K : PySem.W.Frag) (C : Addr) (m qual : Str) (st : Stmt) : Prop where
  ex : ∃ (f p : Addr) (fd : FuncData) (mc : Value), ClX.CRead K C mc ∧ ClX.CMet K C mc m p f ∧ FunD K m qual (defArgs st) (defBody st) (defScope st) [] [] f fd
structure MthC (P : Program) (w : World) (K : PySem.W.Frag) (mg : Str → Option Value) (base : Heap) (k : Nat) (x : Str) (C : Addr) (m : Str) (t : TSp) : Prop where
  ex : ∃ (f p : Addr) (mc : Value), mg x = some (.ref C) ∧ ClX.CRead K C mc ∧ ClX.CMet K C mc m p f ∧ FnR P w K mg base (L2N.CX P w) k f (lSp K t)
  mono : MonoSp t
theorem MthC.lift {P : Program} {w : World} {K : PySem.W.Frag} {mg : Str → Option Value} {base : Heap} {j k : Nat} {x : Str} {C : Addr} {m : Str} {t : TSp} (M : MthC P w K mg base j x C m t) (h : j ≤ k) : MthC P w K mg base k x C m t := by
  obtain ⟨⟨f, p, mc, a, b, c, F⟩, e⟩ := M
  exact ⟨⟨f, p, mc, a, b, c, F.mono h⟩, e⟩
theorem DefC.ok {P : Program} {w : World} {K : PySem.W.Frag} {mg : Str → Option Value} {base : Heap} {x : Str} {C : Addr} {m qual : Str} {st : Stmt} {N ps : List Str} {k : Nat} {t : TSp} {us : US} (D : DefC K C m qual st) (g : mg x = some (.ref C)) (S : FnScope N ps (defScope st))
    (hb : ∀ (kV doc pm : Value) (an : Option Addr) (cdv ct : Value) (us : List Value), us.length = ps.length → bindArgs (PySem.W.fnOf m qual (defArgs st) (defBody st) (defScope st) .none kV doc pm an cdv ct) ⟨us, []⟩ = pure (ps.zip us))
    (len : ∀ xs S Q X, t xs S Q X → xs.length = ps.length) (mono : MonoSp t) (body : BodyT P w K mg base k qual st N us)
    (h : ∀ xs S Q X, Closed Q → ClosedX X → t xs S Q X → us (endU Q) (endX X) (startT N xs) S) : MthC P w K mg base (k + 1) x C m t := by
  obtain ⟨f, p, fd, mc, a, b, F⟩ := D.ex
  refine ⟨⟨f, p, mc, g, a, b, ?_⟩, mono⟩
  exact ((fnD_ok (tsp := t) F S len body h).raw (ds := []) (dvs := []) (F.bindsN hb) .nil).imp fun vs H Q E z => by rw [List.append_nil]; exact z
def uCallC (C : Addr) (t : TSp) (ta : UA) : UE := fun ρ S Q X => ta ρ S (fun xs S1 => t (.ref C :: xs) S1 Q X0) X
/-! ### c(k = v, ..), c a local name that holds a class -/
def uNewKL (i : Nat) (C : Addr) (m : Nat) (l : Pks) (ms : List Tr) (tsp : TSp) (tk : UA) : UE := fun ρ S Q X => ρ[i]? = some (some (.ref C)) ∧ tk ρ S (fun zs S2 => zs.length = m ∧ tsp (pick l [] ms zs) S2 Q X) X
end KQ
namespace KQ
open PySem PySem.Spec PyProof.Rows L2 TL KB
/-! ### match on texts -/
abbrev UCs : Type := List (List Str × US)
def uCases : UCs → Str → US
  | [], _ => fun D _ ρ S => D.nx ρ S
  | c :: cs, z => fun D X ρ S => if z ∈ c.1 then c.2 D X ρ S else uCases cs z D X ρ S
def uMatch (te : UE) (cs : UCs) : US := fun D X ρ S => te ρ S (fun x S1 => ∃ z : Str, x = .str z ∧ uCases cs z D X ρ S1) (atR X ρ)
structure TPM (X : Cx) (W : WX) (ms : List MatchCase) (cs : UCs) : Prop where
  run : ∀ (pins : List (Addr × Obj)) (s : Shared) (σ : L2.St) (H : Hp) (D : L2.Ends) (z : Str) (u : Value) (first : Bool), Inv X pins σ H s → RelV (.str z) u → lS X.K W (uCases cs z) D σ H →
    wpAny (model X.prog X.w) X.A (matchCases ms X.env u first) (SP X pins D) X.xe s
  mono : ∀ z, MonoS (uCases cs z)
section
variable {X : Cx} {W : WX} {e : Expr} {te : UE} {ub : US} {ms : List MatchCase} {cs : UCs} {b : List Stmt} {p q pos : Pos} {k : Nat}
theorem s_match (he : TPE X W e te) (hm : TPM X W ms cs) : TPS X W (.Match e ms pos) (uMatch te cs) := by
  refine ⟨⟨fun pins s σ H D I h => ?_⟩, fun D D' X' X'' ρ S hD hX h => he.mono _ _ _ _ _ _ (fun x S1 ⟨z, ez, q⟩ => ⟨z, ez, hm.mono z _ _ _ _ _ _ hD hX q⟩) (fun _ _ _ _ q => hX _ _ _ _ _ q) h⟩
  obtain ⟨L, F, S, I0, ρ, hd, sl, h⟩ := h
  have step : lE X.K W te σ H (fun v H1 => ∃ z, v = .str z ∧ lS X.K W (uCases cs z) D σ H1) := lE_then he.mono hd sl h (dnXS_at sl) fun x S1 v H1 I1 ⟨z, ez, q⟩ hd1 s1 sl1 r => by
    subst ez
    cases r
    exact ⟨z, rfl, lS_then (hm.mono z) hd1 sl1 q (dnD_up s1) (dnXS_up s1)⟩
  refine wpAny_Match (thn (he.pe.run pins s σ H _ I step) fun u s1 ⟨v, H1, I1, rv, z, ev, q⟩ => ?_)
  subst ev
  exact hm.run pins s1 σ H1 D z u true I1 rv q
theorem m_nil : TPM X W [] [] := ⟨fun pins s σ H D z u first I r ⟨L, F, S, I0, ρ, hd, sl, h⟩ => wpAny_matchCases_nil ⟨σ, H, I, h σ H I0 hd (Same.refl _) sl⟩, fun z D D' X' X'' ρ S hD hX h => hD.1 _ _ h⟩
theorem mono_cases (hb : MonoS ub) (hm : ∀ z, MonoS (uCases cs z)) {c : List Str} (z : Str) : MonoS (uCases ((c, ub) :: cs) z) := fun D D' X' X'' ρ S hD hX h => by
  show (if z ∈ c then ub D' X'' ρ S else uCases cs z D' X'' ρ S)
  have h : (if z ∈ c then ub D X' ρ S else uCases cs z D X' ρ S) := h
  split at h
  · rename_i hz; rw [if_pos hz]; exact hb _ _ _ _ _ _ hD hX h
  · rename_i hz; rw [if_neg hz]; exact hm z _ _ _ _ _ _ hD hX h
/-- a text as a pattern -/
theorem pat_str {pins : List (Addr × Obj)} {s : Shared} {σ : L2.St} {H : Hp} {z c : Str} {u : Value} {Q : Option (List (Str × Value)) → Shared → Prop} (I : Inv X pins σ H s) (r : RelV (.str z) u)
    (h : ∀ s', Inv X pins σ H s' → Q (if z = c then some [] else none) s') : wpAny (model X.prog X.w) X.A (matchPattern (.MatchValue (.Constant (.str c) k p) q) X.env u) Q X.xe s := by
  refine wpAny_matchPattern_Value (thn ((pe_str (X := X) (x := c) (j := k) (pos := p)).run pins s σ H (fun v H1 => v = .str c ∧ H1 = H) I ⟨rfl, rfl⟩) fun x s1 ⟨v, H1, I1, r1, e1, e2⟩ => ?_)
  subst e1 e2
  refine thn (L2.op_eq pins s1 σ H1 (.str z) (.str c) u x (fun v H2 => v = .bl (decide (z = c)) ∧ H2 = H1) I1 r r1 ⟨rfl, ?_, rfl⟩) fun v s2 ⟨y, H2, I2, r2, e1, e2⟩ => ?_
  · congr 1
    by_cases hz : z = c
    · rw [hz]; simp
    · rw [decide_eq_false hz, decide_eq_false]; intro h; cases h; exact hz rfl
  subst e1 e2
  cases r2
  refine wpAny_truthy_bool ?_
  have := h s2 I2
  by_cases hz : z = c
  · rw [if_pos hz] at this; rw [decide_eq_true hz]; exact this
  · rw [if_neg hz] at this; rw [decide_eq_false hz]; exact this
theorem m_one {c : Str} (hb : TPSs X W b ub) (hm : TPM X W ms cs) : TPM X W (⟨.MatchValue (.Constant (.str c) k p) q, none, b⟩ :: ms) (([c], ub) :: cs) := by
  refine ⟨fun pins s σ H D z u first I r h => ?_, mono_cases hb.mono hm.mono⟩
  refine wpAny_matchCases_cons (pat_str I r fun s' I' => ?_)
  obtain ⟨L, F, S, I0, ρ, hd, sl, h⟩ := h
  have h : (if z ∈ [c] then ub (dnD X.K L F I0 D) (dnXS X.K L F I0 W) ρ S else uCases cs z (dnD X.K L F I0 D) (dnXS X.K L F I0 W) ρ S) := h
  by_cases hz : z = c
  · rw [if_pos hz]
    rw [if_pos (List.mem_singleton.mpr hz)] at h
    exact wpAny_assignInOrder_none (hb.pe.run pins s' σ H D I' ⟨L, F, S, I0, ρ, hd, sl, h⟩)
  · rw [if_neg hz]
    rw [if_neg (fun q => hz (List.mem_singleton.mp q))] at h
    exact hm.run pins s' σ H D z u false I' r ⟨L, F, S, I0, ρ, hd, sl, h⟩
theorem m_or3 {c1 c2 c3 : Str} {k1 k2 k3 : Nat} {p1 p2 p3 q1 q2 q3 : Pos} (hb : TPSs X W b ub) (hm : TPM X W ms cs) : TPM X W (⟨.MatchOr [.MatchValue (.Constant (.str c1) k1 p1) q1, .MatchValue (.Constant (.str c2) k2 p2) q2, .MatchValue (.Constant (.str c3) k3 p3) q3] q, none, b⟩ :: ms) (([c1, c2, c3], ub) :: cs) := by
  refine ⟨fun pins s σ H D z u first I r h => ?_, mono_cases hb.mono hm.mono⟩
  obtain ⟨L, F, S, I0, ρ, hd, sl, h⟩ := h
  have h : (if z ∈ [c1, c2, c3] then ub (dnD X.K L F I0 D) (dnXS X.K L F I0 W) ρ S else uCases cs z (dnD X.K L F I0 D) (dnXS X.K L F I0 W) ρ S) := h
  refine wpAny_matchCases_cons (wpAny_matchPattern_Or (wpAny_matchFirst_cons (pat_str I r fun s1 I1 => ?_)))
  by_cases h1 : z = c1
  · rw [if_pos h1]
    rw [if_pos (by rw [h1]; simp)] at h
    exact wpAny_assignInOrder_none (hb.pe.run pins s1 σ H D I1 ⟨L, F, S, I0, ρ, hd, sl, h⟩)
  rw [if_neg h1]
  refine wpAny_matchFirst_cons (pat_str I1 r fun s2 I2 => ?_)
  by_cases h2 : z = c2
  · rw [if_pos h2]
    rw [if_pos (by rw [h2]; simp)] at h
    exact wpAny_assignInOrder_none (hb.pe.run pins s2 σ H D I2 ⟨L, F, S, I0, ρ, hd, sl, h⟩)
  rw [if_neg h2]
  refine wpAny_matchFirst_cons (pat_str I2 r fun s3 I3 => ?_)
  by_cases h3 : z = c3
  · rw [if_pos h3]
    rw [if_pos (by rw [h3]; simp)] at h
    exact wpAny_assignInOrder_none (hb.pe.run pins s3 σ H D I3 ⟨L, F, S, I0, ρ, hd, sl, h⟩)
  rw [if_neg h3]
  rw [if_neg (by simp [h1, h2, h3])] at h
  exact wpAny_matchFirst_nil (hm.run pins s3 σ H D z u false I3 r ⟨L, F, S, I0, ρ, hd, sl, h⟩)
end
/-! ### while (x := a) op b -/
def uWhileN (g : Tr → Tr → Tr → Prop) (i : Nat) (ta tb : UE) (body : US) : US := fun D X ρ S => ∃ Wv : Nat → Rho → Sto → Prop, (∃ m, Wv m ρ S) ∧ ∀ m ρ S, Wv m ρ S →
  ta ρ S (fun x S1 => tb (ρ.set i (some x)) S1 (fun y S2 => ∃ z, g (vw S2 x) (vw S2 y) z ∧ ∃ k, z = .bl k ∧
    if k = true then body { D with nx := fun ρ' S' => ∃ m', m' < m ∧ Wv m' ρ' S', ct := fun ρ' S' => ∃ m', m' < m ∧ Wv m' ρ' S', bk := D.nx } X (ρ.set i (some x)) S2 else D.nx (ρ.set i (some x)) S2) (atR X (ρ.set i (some x)))) (atR X ρ)
theorem s_whileN {X : Cx} {W : WX} {a b : Expr} {ta tb : UE} {body : List Stmt} {ub : US} {op : CmpOp} {r : R2} {g : Tr → Tr → Tr → Prop} {i : Nat} {x : Str} {xp npos cpos pos : Pos} (hp : PassesOwn (model X.prog X.w) X.A X.env X.xe) (hN : X.N.Nodup) (hi : X.N[i]? = some x) (hx : Loc X.env.scope x)
    (ho : OpR X (compareOp op) r) (sg : OpT X.K r g) (ha : TPE X W a ta) (hb : TPE X W b tb) (hm : behindInMarks op b = false) (hbo : TPSs X W body ub) (hf : X.fn x = true ∨ X.env.scope.names.lookup x = some .local := by first | exact .inl rfl | exact .inr rfl | assumption) :
    TPS X W (.While (.Compare (.NamedExpr (.Name x xp) a npos) [op] [b] cpos) body [] pos) (uWhileN g i ta tb ub) :=
  ⟨wkS (ps_whileW hp (ptw_cmp ho (pew_named hN hi hx (pew_of ha.pe) hf) hb.pe hm) hbo.pe (pss_nil (X := X))) fun D σ H ⟨L, F, S, I, ρ, hd, sl, Wv, ⟨m0, w0⟩, turn⟩ => by
    refine ⟨fun m σ H => ∃ S I' ρ, Hd X.K L F H S I' ∧ Same I I' ∧ Slots X.K I' σ ρ ∧ Wv m ρ S, ⟨m0, S, I, ρ, hd, Same.refl _, sl, w0⟩, ?_⟩
    rintro m σ H ⟨S, I', ρ, hd', s', sl', w'⟩
    refine lE_then ha.mono hd' sl' (turn m ρ S w') (fun c f x S2 q => dnXS_at sl' _ _ _ _ (dnXS_up s' _ _ _ _ _ q)) fun y S1 v H1 I1 q hd1 s1 sl1 r1 => ?_
    refine lE_then hb.mono hd1 (sl1.set r1) q (fun c f x S2 q => dnXS_at (sl1.set r1) _ _ _ _ (dnXS_up (s'.trans s1) _ _ _ _ _ q)) fun y2 S2 v2 H2 I2 ⟨z, gz, k, ez, q⟩ hd2 s2 sl2 r2 => ?_
    subst ez
    refine sg hd2 (r1.mono s2) r2 gz fun v' H3 I3 hd3 s3 r3 => ⟨k, r3, ?_⟩
    cases k with
    | true =>
      rw [if_pos rfl] at q ⊢
      refine ⟨fun σ2 H2 => ∃ m', m' < m ∧ ∃ S I' ρ, Hd X.K L F H2 S I' ∧ Same I I' ∧ Slots X.K I' σ2 ρ ∧ Wv m' ρ S, fun σ2 H2 z => z, ?_⟩
      have t := ((s'.trans s1).trans s2).trans s3
      refine lS_then hbo.mono hd3 (sl2.mono s3) q ⟨fun ρ3 S3 ⟨m', hm, w3⟩ σ3 H3 I3 hd3 s3 sl3 => ⟨m', hm, S3, I3, ρ3, hd3, t.trans s3, sl3, w3⟩, dnV_up t, dnS_up t, fun ρ3 S3 ⟨m', hm, w3⟩ σ3 H3 I3 hd3 s3 sl3 => ⟨m', hm, S3, I3, ρ3, hd3, t.trans s3, sl3, w3⟩⟩ (dnXS_up t)
    | false =>
      rw [if_neg Bool.false_ne_true] at q ⊢
      exact q _ H3 I3 hd3 (((s'.trans s1).trans s2).trans s3) (sl2.mono s3),
   fun D D' X' X'' ρ S hD hX ⟨Wv, w0, turn⟩ => ⟨Wv, w0, fun m ρ S w => ha.mono _ _ _ _ _ _ (fun x S1 q => hb.mono _ _ _ _ _ _ (fun y S2 ⟨z, gz, k, ez, q⟩ => ⟨z, gz, k, ez, by
      cases k with
      | true => rw [if_pos rfl] at q ⊢; exact hbo.mono { D with nx := fun ρ' S' => ∃ m', m' < m ∧ Wv m' ρ' S', ct := fun ρ' S' => ∃ m', m' < m ∧ Wv m' ρ' S', bk := D.nx } _ X' _ _ _ ⟨fun _ _ q => q, hD.2.1, hD.1, fun _ _ q => q⟩ hX q
      | false => rw [if_neg Bool.false_ne_true] at q ⊢; exact hD.1 _ _ q⟩) (fun _ _ _ _ q => hX _ _ _ _ _ q) q) (fun _ _ _ _ q => hX _ _ _ _ _ q) (turn m ρ S w)⟩⟩
/-! ### D[k], D a dict of the module -/
def uKIx (kvs : KvT) (te : UE) : UE := fun ρ S Q X => te ρ S (fun x S1 => ∃ (z : Str) (t : Tr), x = .str z ∧ kvs.lookup z = some t ∧ Q t S1) X
theorem ix_kd {X : Cx} {d : Addr} {es : Array DictEntry} {n : Nat} (D : KDict X.K X.w d es n) : IxR X (fun x y H Q => ∃ (z : Str) (u0 : Value) (v0 : V), x = .ref d ∧ y = .str z ∧ PySem.W.nsIn X.K d z = some (some u0) ∧ RelV v0 u0 ∧ Q v0 H) := by
  intro value slice pins s σ H x y v u Q I rx ry h hs
  have h0 := h
  obtain ⟨z, u0, v0, rfl, rfl, e, r, q⟩ := h0
  have hT := kd_type D I
  have rx' := rx
  cases rx
  have fin : wpAny (model X.prog X.w) X.A (subscripted slice false (Value.ref d) u) (fun r s3 => wpAny (model X.prog X.w) X.A (letTemporaryGo value (Value.ref d) r >>= fun _ => pure r) (EP X pins σ Q) X.xe s3) X.xe s := by
    rw [hs]
    refine wpAny_operating (thn (op_item_kd D pins s σ H (.ref d) (.str z) (Value.ref d) u Q I rx' ry ⟨z, u0, v0, rfl, rfl, e, r, q⟩) fun w' s3 hw => wpAny_bind (wpAny_letTemporaryGo (wpAny_pure hw)))
  unfold subscriptTail
  rw [getitemInPython_of_ne hT.not_modules]
  refine wpAny_bind (wpAny_bind (wpAny_specialOf hT PySem.F.slot_dict_getitem.lookup ?_))
  first | exact wpAny_pure (wpAny_bind fin) | exact wpAny_bind (wpAny_pure (wpAny_bind fin)) | exact wpAny_bind fin
theorem e_kix {X : Cx} {W : WX} {e : Expr} {p pos : Pos} {x : Str} {kvs : List (Str × Tr)} {te : UE} (G : KTab X.K X.w X.mg x kvs) (hg : Gl X x) (he : TPE X W e te) (hs : PlainIx e) (hd : (x == ("__debug__" : Str)) = false := by decide) :
    TPE X W (.Subscript (.Name x p) e pos) (uKIx kvs te) := by
  obtain ⟨d, es, n, g, D, look⟩ := G.ex
  have hn : PE X (.Name x p) _ := pe_glob (v := .ref d) hg g rfl hd
  refine ⟨wkE (pe_ix (pos := pos) (ix_kd D) hn he.pe hs) fun σ H R ⟨L, F, S, I, ρ, hd', sl, h⟩ => ?_, fun ρ S Q Q' X X' hQ hX h => he.mono _ _ _ _ _ _ (fun x S1 ⟨z, t, ex, l, q⟩ => ⟨z, t, ex, l, hQ _ _ q⟩) hX h⟩
  refine lE_then he.mono hd' sl h (fun _ _ _ _ h => h) fun x S1 v H1 I1 ⟨z, t, ex, l, q⟩ hd1 s1 sl1 rx => ?_
  subst ex
  cases rx
  rcases look z with ⟨e1, _⟩ | ⟨t', u, v, e1, e2, rv, rt⟩
  · rw [e1] at l; cases l
  · rw [e1] at l; cases l
    exact ⟨z, u, v, rfl, rfl, e2, rv, q v H1 I1 hd1 s1 (rt _)⟩
/-! ### a written text + e.replace(..).replace(..) -/
def uRep2 (q y z y2 z2 : Str) (te : UE) : UE := fun ρ S Q X => te ρ S (fun x S1 => ∃ s, x = .str s ∧ s.length + (s.length + 1) * z.length ≤ 16777216 ∧ (Txt.replace s y z).length + ((Txt.replace s y z).length + 1) * z2.length ≤ 16777216 ∧ q.length + (Txt.replace (Txt.replace s y z) y2 z2).length ≤ sizeLine ∧ Q (.str (q ++ Txt.replace (Txt.replace s y z) y2 z2)) S1) X
theorem e_rep2 {X : Cx} {W : WX} {e : Expr} {te : UE} {q y z y2 z2 : Str} {j0 j k j2 k2 : Nat} {c0 c1 c2 c3 c4 ap ap2 ps ps2 pos : Pos} (he : TPE X W e te) (h1 : (y == z) = false := by decide +kernel) (h2 : (y2 == z2) = false := by decide +kernel)
    (s1 : starEach [.Constant (.str y) j c1, .Constant (.str z) k c2] X.env = [(false, eval (.Constant (.str y) j c1) X.env), (false, eval (.Constant (.str z) k c2) X.env)] := by rfl)
    (s2 : starEach [.Constant (.str y2) j2 c3, .Constant (.str z2) k2 c4] X.env = [(false, eval (.Constant (.str y2) j2 c3) X.env), (false, eval (.Constant (.str z2) k2 c4) X.env)] := by rfl)
    (b1 : attributeBase e (Str.ofString "replace") X.env (eval e X.env) = eval e X.env := by rfl)
    (b2 : attributeBase (.Call (.Attribute e "replace" ap) [.Constant (.str y) j c1, .Constant (.str z) k c2] [] ps) (Str.ofString "replace") X.env (eval (.Call (.Attribute e "replace" ap) [.Constant (.str y) j c1, .Constant (.str z) k c2] [] ps) X.env) = eval (.Call (.Attribute e "replace" ap) [.Constant (.str y) j c1, .Constant (.str z) k c2] [] ps) X.env := by rfl)
    (l1 : (ap.endLine == ps.line) = true := by rfl) (l2 : (ap2.endLine == ps2.line) = true := by rfl) :
    TPE X W (.BinOp (.Constant (.str q) j0 c0) .Add (.Call (.Attribute (.Call (.Attribute e "replace" ap) [.Constant (.str y) j c1, .Constant (.str z) k c2] [] ps) "replace" ap2) [.Constant (.str y2) j2 c3, .Constant (.str z2) k2 c4] [] ps2) pos) (uRep2 q y z y2 z2 te) :=
  ⟨wkE (KB.pe_opT KB.ad_any (CwR.pet_replT (CwR.pet_replC he.pe h1 s1 b1 l1) h2 s2 b2 l2)) fun σ H R ⟨L, F, S, I, ρ, hd, sl, h⟩ => (by
    show CwR.tReplC (CwR.tReplC (lE X.K W te) y z) y2 z2 σ H (fun y H2 => KB.rAd (.str q) y H2 R)
    refine lE_then he.mono hd sl h (fun _ _ _ _ h => h) fun x S1 v H1 I1 ⟨s, ex, g1, g2, g3, g4⟩ hd1 s1 sl1 r => ?_
    subst ex
    cases r
    exact ⟨s, rfl, g1, _, rfl, g2, .inr (.inl ⟨_, _, rfl, rfl, g3, g4 _ H1 I1 hd1 s1 rfl⟩)⟩),
   fun ρ S Q Q' X X' hQ hX h => he.mono _ _ _ _ _ _ (fun x S1 ⟨s, ex, g1, g2, g3, g4⟩ => ⟨s, ex, g1, g2, g3, hQ _ _ g4⟩) hX h⟩
end KQ
namespace KQ
open PySem PySem.Spec PyProof.Rows L2 TL KB
theorem q_uVar {i : Nat} {ρ : Rho} {S : Sto} {Q : QV} {z3 : QX} : uVar i ρ S Q z3 = (∃ x : Tr, ρ[i]? = some (some x) ∧ Q x S) := propext Iff.rfl
theorem q_uC {x : Tr} {z0 : Rho} {S : Sto} {Q : QV} {z3 : QX} : uC x z0 S Q z3 = (Q x S) := propext Iff.rfl
theorem q_u2 {ta tb : UE} {k : Tr → Tr → Sto → QV → QX → Prop} {ρ : Rho} {S : Sto} {Q : QV} {X : QX} : u2 ta tb k ρ S Q X = (ta ρ S (fun x S1 => tb ρ S1 (fun y S2 => k x y S2 Q X) X) X) := propext Iff.rfl
theorem q_uOp {g : Tr → Tr → Tr → Prop} {ta tb : UE} {ρ : Rho} {S : Sto} {Q : QV} {X : QX} : uOp g ta tb ρ S Q X = (ta ρ S (fun x S1 => tb ρ S1 (fun y S2 => ∃ z, g (vw S2 x) (vw S2 y) z ∧ Q z S2) X) X) := propext Iff.rfl
theorem q_uUn {g : Tr → Tr → Prop} {ta : UE} {ρ : Rho} {S : Sto} {Q : QV} {X : QX} : uUn g ta ρ S Q X = (ta ρ S (fun x S1 => ∃ z, g (vw S1 x) z ∧ Q z S1) X) := propext Iff.rfl
theorem q_uB {te : UE} {ρ : Rho} {S : Sto} {Q : QB} {X : QX} : uB te ρ S Q X = (te ρ S (fun x S1 => ∃ k, x = .bl k ∧ Q k S1) X) := propext Iff.rfl
theorem q_uAnd {t u : UT} {ρ : Rho} {S : Sto} {Q : QB} {X : QX} : uAnd t u ρ S Q X = (t ρ S (fun c S1 => if c = true then u ρ S1 Q X else Q false S1) X) := propext Iff.rfl
theorem q_uOr {t u : UT} {ρ : Rho} {S : Sto} {Q : QB} {X : QX} : uOr t u ρ S Q X = (t ρ S (fun c S1 => if c = true then Q true S1 else u ρ S1 Q X) X) := propext Iff.rfl
theorem q_uNot {t : UT} {ρ : Rho} {S : Sto} {Q : QB} {X : QX} : uNot t ρ S Q X = (t ρ S (fun c S1 => Q (!c) S1) X) := propext Iff.rfl
theorem q_uAndV {ta tb : UE} {ρ : Rho} {S : Sto} {Q : QV} {X : QX} : uAndV ta tb ρ S Q X = (ta ρ S (fun x S1 => ∃ c, x = .bl c ∧ if c = true then tb ρ S1 Q X else Q (.bl false) S1) X) := propext Iff.rfl
theorem q_uOrV {ta tb : UE} {ρ : Rho} {S : Sto} {Q : QV} {X : QX} : uOrV ta tb ρ S Q X = (ta ρ S (fun x S1 => ∃ c, x = .bl c ∧ if c = true then Q (.bl true) S1 else tb ρ S1 Q X) X) := propext Iff.rfl
theorem q_uNotV {ta : UE} {ρ : Rho} {S : Sto} {Q : QV} {X : QX} : uNotV ta ρ S Q X = (ta ρ S (fun x S1 => ∃ c, x = .bl c ∧ Q (.bl (!c)) S1) X) := propext Iff.rfl
theorem q_uIf {t : UT} {ta tb : UE} {ρ : Rho} {S : Sto} {Q : QV} {X : QX} : uIf t ta tb ρ S Q X = (t ρ S (fun c S1 => if c = true then ta ρ S1 Q X else tb ρ S1 Q X) X) := propext Iff.rfl
theorem q_uNil  {z0 : Rho} {S : Sto} {Q : QL} {z3 : QX} : uNil  z0 S Q z3 = (Q [] S) := propext Iff.rfl
theorem q_uCons {ta : UE} {tr : UA} {ρ : Rho} {S : Sto} {Q : QL} {X : QX} : uCons ta tr ρ S Q X = (ta ρ S (fun x S1 => tr ρ S1 (fun xs S2 => Q (x :: xs) S2) X) X) := propext Iff.rfl
theorem q_uTup {t : UA} {ρ : Rho} {S : Sto} {Q : QV} {X : QX} : uTup t ρ S Q X = (t ρ S (fun xs S1 => xs.length ≤ sizeLine ∧ Q (.tup xs) S1) X) := propext Iff.rfl
theorem q_uLst {t : UA} {ρ : Rho} {S : Sto} {Q : QV} {X : QX} : uLst t ρ S Q X = (t ρ S (fun xs S1 => xs.length ≤ sizeLine ∧ Q (.lst xs) S1) X) := propext Iff.rfl
theorem q_uLstC {t : UA} {ρ : Rho} {S : Sto} {Q : QV} {X : QX} : uLstC t ρ S Q X = (t ρ S (fun xs S1 => xs.length ≤ sizeLine ∧ ∀ p, S1 p = none → Q (.ref p) (put S1 p (.lst xs))) X) := propext Iff.rfl
theorem q_uCb {g : List Tr → Tr → Prop} {t : UA} {ρ : Rho} {S : Sto} {Q : QV} {X : QX} : uCb g t ρ S Q X = (t ρ S (fun xs S1 => ∃ z, g (xs.map (vw S1)) z ∧ Q z S1) X) := propext Iff.rfl
theorem q_uNext  {D : UEnds} {z1 : XS} {ρ : Rho} {S : Sto} : uNext  D z1 ρ S = (D.nx ρ S) := propext Iff.rfl
theorem q_uSeq {t u : US} {D : UEnds} {X : XS} {ρ : Rho} {S : Sto} : uSeq t u D X ρ S = (t { D with nx := u D X } X ρ S) := propext Iff.rfl
theorem q_uBreak  {D : UEnds} {z1 : XS} {ρ : Rho} {S : Sto} : uBreak  D z1 ρ S = (D.bk ρ S) := propext Iff.rfl
theorem q_uCont  {D : UEnds} {z1 : XS} {ρ : Rho} {S : Sto} : uCont  D z1 ρ S = (D.ct ρ S) := propext Iff.rfl
theorem q_uCut {t u : US} {D : UEnds} {X : XS} {ρ : Rho} {S : Sto} : uCut t u D X ρ S = (∀ p : QS, CutT (u D X) p → t { D with nx := p } X ρ S) := propext Iff.rfl
theorem q_uDrop {te : UE} {D : UEnds} {X : XS} {ρ : Rho} {S : Sto} : uDrop te D X ρ S = (te ρ S (fun _ S1 => D.nx ρ S1) (atR X ρ)) := propext Iff.rfl
theorem q_uRet {te : UE} {D : UEnds} {X : XS} {ρ : Rho} {S : Sto} : uRet te D X ρ S = (te ρ S D.rt (atR X ρ)) := propext Iff.rfl
theorem q_uRetN  {D : UEnds} {z1 : XS} {z2 : Rho} {S : Sto} : uRetN  D z1 z2 S = (D.rt .non S) := propext Iff.rfl
theorem q_uIfS {c : UT} {t u : US} {D : UEnds} {X : XS} {ρ : Rho} {S : Sto} : uIfS c t u D X ρ S = (c ρ S (fun b S1 => if b = true then t D X ρ S1 else u D X ρ S1) (atR X ρ)) := propext Iff.rfl
theorem q_uNever  {z0 : UEnds} {z1 : XS} {z2 : Rho} {z3 : Sto} : uNever  z0 z1 z2 z3 = (False) := propext Iff.rfl
theorem q_uSet {i : Nat} {te : UE} {D : UEnds} {X : XS} {ρ : Rho} {S : Sto} : uSet i te D X ρ S = (te ρ S (fun x S1 => D.nx (ρ.set i (some x)) S1) (atR X ρ)) := propext Iff.rfl
theorem q_uAsg {p : Pat} {te : UE} {D : UEnds} {X : XS} {ρ : Rho} {S : Sto} : uAsg p te D X ρ S = (te ρ S (fun x S1 => ∃ ρ2, patR p x ρ = some ρ2 ∧ D.nx ρ2 S1) (atR X ρ)) := propext Iff.rfl
theorem q_uPar {i j : Nat} {ta : UA} {D : UEnds} {X : XS} {ρ : Rho} {S : Sto} : uPar i j ta D X ρ S = (ta ρ S (fun xs S1 => ∃ x y, xs = [x, y] ∧ D.nx ((ρ.set i (some x)).set j (some y)) S1) (atR X ρ)) := propext Iff.rfl
theorem q_uAug {i : Nat} {g : Tr → Tr → Tr → Prop} {te : UE} {D : UEnds} {X : XS} {ρ : Rho} {S : Sto} : uAug i g te D X ρ S = (∃ x : Tr, ρ[i]? = some (some x) ∧ te ρ S (fun y S1 => ∃ z, g (vw S1 x) (vw S1 y) z ∧ D.nx (ρ.set i (some z)) S1) (atR X ρ)) := propext Iff.rfl
theorem q_uFor {ui : UI} {p : Pat} {tb : US} {D : UEnds} {X : XS} {ρ : Rho} {S : Sto} : uFor ui p tb D X ρ S = (ui ρ S (fun wk S1 => uLoop wk.ok p tb D X wk.xs ρ S1) (atR X ρ)) := propext Iff.rfl
theorem q_uSeqI {te : UE} {ρ : Rho} {S : Sto} {R : Walk → Sto → Prop} {X : QX} : uSeqI te ρ S R X = (te ρ S (fun x S1 => ∃ xs, (asL (vw S1 x) = some xs ∨ vw S1 x = .tup xs) ∧ R ⟨xs, fun S' => vw S' x = vw S1 x⟩ S1) X) := propext Iff.rfl
theorem q_uCall {tsp : TSp} {t : UA} {ρ : Rho} {S : Sto} {Q : QV} {X : QX} : uCall tsp t ρ S Q X = (t ρ S (fun xs S1 => tsp xs S1 Q X) X) := propext Iff.rfl
theorem q_uYes  {z0 : Rho} {S : Sto} {Q : QB} {z3 : QX} : uYes  z0 S Q z3 = (Q true S) := propext Iff.rfl
theorem q_uLc {ui : UI} {p : Pat} {tt : UT} {te : UE} {vs : List Nat} {ρ : Rho} {S : Sto} {Q : QV} {X : QX} : uLc ui p tt te vs ρ S Q X = (ui ρ S (fun wk S1 => uLcL wk.ok p tt te (wipeR ρ vs) Q wk.xs [] S1) X) := propext Iff.rfl
theorem q_uLcC {ui : UI} {p : Pat} {tt : UT} {te : UE} {vs : List Nat} {ρ : Rho} {S : Sto} {Q : QV} {X : QX} : uLcC ui p tt te vs ρ S Q X = (ui ρ S (fun wk S1 => uLcL wk.ok p tt te (wipeR ρ vs) (qCell Q) wk.xs [] S1) X) := propext Iff.rfl
theorem q_uPart {te : UE} {ρ : Rho} {S : Sto} {Q : Option Int → Sto → Prop} {X : QX} : uPart te ρ S Q X = (te ρ S (fun x S1 => ∃ i, vw S1 x = .int i ∧ Q (some i) S1) X) := propext Iff.rfl
theorem q_uNoPart  {ρ : Rho} {S : Sto} {Q : Option Int → Sto → Prop} {X : QX} : uNoPart  ρ S Q X = (Q none S) := propext Iff.rfl
theorem q_uSl {te : UE} {tl th : Rho → Sto → (Option Int → Sto → Prop) → QX → Prop} {ρ : Rho} {S : Sto} {Q : QV} {X : QX} : uSl te tl th ρ S Q X = (te ρ S (fun x S1 => tl ρ S1 (fun l S2 => th ρ S2 (fun u S3 => ∃ z, gSl (vw S3 x) l u z ∧ Q z S3) X) X) X) := propext Iff.rfl
theorem q_uIsi2 {K : PySem.W.Frag} {u w : Value} {te : UE} {ρ : Rho} {S : Sto} {Q : QV} {X : QX} : uIsi2 K u w te ρ S Q X = (te ρ S (fun x S1 => ∃ t b e, tyT K (vw S1 x) t ∧ PySem.W.kitOne K t u = some b ∧ PySem.W.kitOne K t w = some e ∧ Q (.bl (b || e)) S1) X) := propext Iff.rfl
theorem q_uRng1 {ta : UA} {ρ : Rho} {S : Sto} {R : Walk → Sto → Prop} {X : QX} : uRng1 ta ρ S R X = (ta ρ S (fun xs S1 => ∃ j, xs = [.int j] ∧ (-(2 ^ 62) ≤ j ∧ j < 2 ^ 62) ∧ R ⟨rngT 0 j.toNat, fun _ => True⟩ S1) X) := propext Iff.rfl
theorem q_uRng2 {ta : UA} {ρ : Rho} {S : Sto} {R : Walk → Sto → Prop} {X : QX} : uRng2 ta ρ S R X = (ta ρ S (fun xs S1 => ∃ i j, xs = [.int i, .int j] ∧ (-(2 ^ 62) ≤ i ∧ i < 2 ^ 62 ∧ -(2 ^ 62) ≤ j ∧ j < 2 ^ 62) ∧ R ⟨rngT i (j - i).toNat, fun _ => True⟩ S1) X) := propext Iff.rfl
theorem q_uStrI {te : UE} {ρ : Rho} {S : Sto} {R : Walk → Sto → Prop} {X : QX} : uStrI te ρ S R X = (te ρ S (fun x S1 => ∃ z, vw S1 x = .str z ∧ R ⟨z.cps.toList.map sgnT, fun _ => True⟩ S1) X) := propext Iff.rfl
theorem q_uEnum {ta : UA} {ρ : Rho} {S : Sto} {R : Walk → Sto → Prop} {X : QX} : uEnum ta ρ S R X = (ta ρ S (fun ys S1 => ∃ x xs, ys = [x] ∧ asL (vw S1 x) = some xs ∧ R ⟨enumT 0 xs, fun S' => vw S' x = vw S1 x⟩ S1) X) := propext Iff.rfl
theorem q_uFld {K : PySem.W.Frag} {f : Str} {te : UE} {ρ : Rho} {S : Sto} {Q : QV} {X : QX} : uFld K f te ρ S Q X = (te ρ S (fun x S1 => ∃ C fs xs y, vw S1 x = .ins C fs xs ∧ ClsF K C f ∧ fget f fs xs = some y ∧ Q y S1) X) := propext Iff.rfl
theorem q_uSFld {K : PySem.W.Frag} {f : Str} {to te : UE} {D : UEnds} {X : XS} {ρ : Rho} {S : Sto} : uSFld K f to te D X ρ S = (te ρ S (fun y S1 => to ρ S1 (fun x S2 => ∃ a C fs xs, x = .ref a ∧ S2 a = some (.ins C fs xs) ∧ ClsF K C f ∧ fs.length < 1000 ∧ D.nx ρ (put S2 a (.ins C (fputN f fs) (fputX f y fs xs)))) (atR X ρ)) (atR X ρ)) := propext Iff.rfl
theorem q_uDPut {to ti te : UE} {D : UEnds} {X : XS} {ρ : Rho} {S : Sto} : uDPut to ti te D X ρ S = (te ρ S (fun y S1 => to ρ S1 (fun x S2 => ti ρ S2 (fun j S3 => ∃ a ks xs k, x = .ref a ∧ S3 a = some (.dic ks xs) ∧ keyT (vw S3 j) = some k ∧ ks.length < sizeLine ∧ D.nx ρ (put S3 a (.dic (kputN k ks) (kputX k y ks xs)))) (atR X ρ)) (atR X ρ)) (atR X ρ)) := propext Iff.rfl
theorem q_uLPut {to ti te : UE} {D : UEnds} {X : XS} {ρ : Rho} {S : Sto} : uLPut to ti te D X ρ S = (te ρ S (fun y S1 => to ρ S1 (fun x S2 => ti ρ S2 (fun j S3 => ∃ a xs n k, x = .ref a ∧ S3 a = some (.lst xs) ∧ vw S3 j = .int n ∧ ixN xs.length n = some k ∧ D.nx ρ (put S3 a (.lst (xs.set k y)))) (atR X ρ)) (atR X ρ)) (atR X ρ)) := propext Iff.rfl
theorem q_uFrz {i : Nat} {u : US} {D : UEnds} {X : XS} {ρ : Rho} {S : Sto} : uFrz i u D X ρ S = (∃ (x y : Tr) (S' : Sto), ρ[i]? = some (some x) ∧ Frz x S y S' ∧ u D X (ρ.set i (some y)) S') := propext Iff.rfl
theorem q_uMt {T : String} {g : Tr → List Tr → Tr → Prop} {to : UE} {ta : UA} {ρ : Rho} {S : Sto} {Q : QV} {X : QX} : uMt T g to ta ρ S Q X = (to ρ S (fun x S1 => tyOk T (vw S1 x) ∧ ta ρ S1 (fun ys S2 => ∃ z, g (vw S2 x) (ys.map (vw S2)) z ∧ Q z S2) X) X) := propext Iff.rfl
theorem q_uMm {g : Sto → List Tr → List Tr → List Tr → Tr → Prop} {to : UE} {ta : UA} {ρ : Rho} {S : Sto} {Q : QV} {X : QX} : uMm g to ta ρ S Q X = (to ρ S (fun x S1 => tyOk "list" (vw S1 x) ∧ ta ρ S1 (fun ys S2 => ∃ a xs xs' z, x = .ref a ∧ S2 a = some (.lst xs) ∧ g S2 xs ys xs' z ∧ Q z (put S2 a (.lst xs'))) X) X) := propext Iff.rfl
theorem q_uForD {w : DK} {src : Rho → Sto → List Key → List Tr → Prop} {p : Pat} {tb : US} {D : UEnds} {X : XS} {ρ : Rho} {S : Sto} : uForD w src p tb D X ρ S = (∃ ks xs, src ρ S ks xs ∧ uLoop (fun _ => True) p tb D X (DK.list w ks xs) ρ S) := propext Iff.rfl
theorem q_uLcD {w : DK} {src : Rho → Sto → List Key → List Tr → Prop} {p : Pat} {tt : UT} {te : UE} {vs : List Nat} {ρ : Rho} {S : Sto} {Q : QV} {X : QX} : uLcD w src p tt te vs ρ S Q X = (∃ ks xs, src ρ S ks xs ∧ uLcL (fun _ => True) p tt te (wipeR ρ vs) Q (DK.list w ks xs) [] S) := propext Iff.rfl
theorem q_uMeth {m : Str} {ms : Addr → TSp → Prop} {to : UE} {ta : UA} {ρ : Rho} {S : Sto} {Q : QV} {X : QX} : uMeth m ms to ta ρ S Q X = (to ρ S (fun x S1 => ∃ C fs xs t, vw S1 x = .ins C fs xs ∧ ms C t ∧ fget m fs xs = none ∧ ta ρ S1 (fun ys S2 => t (x :: ys) S2 Q X) X) X) := propext Iff.rfl
theorem q_uDNew  {z0 : Rho} {S : Sto} {Q : QV} {z3 : QX} : uDNew  z0 S Q z3 = (∀ p, S p = none → Q (.ref p) (put S p (.dic [] []))) := propext Iff.rfl
theorem q_uFldAug {K : PySem.W.Frag} {f : Str} {g : Int → Int → Int} {to te : UE} {D : UEnds} {X : XS} {ρ : Rho} {S : Sto} : uFldAug K f g to te D X ρ S = (to ρ S (fun x S1 => ∃ a C fs xs i, x = .ref a ∧ S1 a = some (.ins C fs xs) ∧ ClsF K C f ∧ fget f fs xs = some (.int i) ∧ te ρ S1 (fun y S2 => ∃ fs2 xs2 j, vw S2 y = .int j ∧ S2 a = some (.ins C fs2 xs2) ∧ fs2.length < 1000 ∧ D.nx ρ (put S2 a (.ins C (fputN f fs2) (fputX f (.int (g i j)) fs2 xs2)))) (atR X ρ)) (atR X ρ)) := propext Iff.rfl
theorem q_uDisp {trs : List (UE × UE)} {ρ : Rho} {S : Sto} {Q : QV} {X : QX} : uDisp trs ρ S Q X = (uPairs trs ρ S (fun ps S2 => ∃ ks, keysOf ps = some ks ∧ ks.Nodup ∧ ks.length ≤ 15 ∧ ∀ p, S2 p = none → Q (.ref p) (put S2 p (.dic ks (ps.map (·.2))))) X) := propext Iff.rfl
theorem q_uIsi1 {K : PySem.W.Frag} {u : Value} {te : UE} {ρ : Rho} {S : Sto} {Q : QV} {X : QX} : uIsi1 K u te ρ S Q X = (te ρ S (fun x S1 => ∃ t b, tyT K (vw S1 x) t ∧ PySem.W.kitOne K t u = some b ∧ Q (.bl b) S1) X) := propext Iff.rfl
theorem q_uOBin {ms : Addr → TSp → Prop} {ta tb : UE} {ρ : Rho} {S : Sto} {Q : QV} {X : QX} : uOBin ms ta tb ρ S Q X = (ta ρ S (fun x S1 => tb ρ S1 (fun y S2 => ∃ C fs xs gs zs t, vw S2 x = .ins C fs xs ∧ vw S2 y = .ins C gs zs ∧ ms C t ∧ t [x, y] S2 Q X) X) X) := propext Iff.rfl
theorem q_uOIx {ms : Addr → TSp → Prop} {ta tb : UE} {ρ : Rho} {S : Sto} {Q : QV} {X : QX} : uOIx ms ta tb ρ S Q X = (ta ρ S (fun x S1 => tb ρ S1 (fun y S2 => ∃ C fs xs t, vw S2 x = .ins C fs xs ∧ ms C t ∧ t [x, y] S2 Q X) X) X) := propext Iff.rfl
theorem q_uOIn {n : Bool} {ms : Addr → TSp → Prop} {ta tb : UE} {ρ : Rho} {S : Sto} {Q : QV} {X : QX} : uOIn n ms ta tb ρ S Q X = (ta ρ S (fun x S1 => tb ρ S1 (fun y S2 => ∃ C fs xs t, vw S2 y = .ins C fs xs ∧ ms C t ∧ t [y, x] S2 (fun z S3 => ∃ b, z = .bl b ∧ Q (.bl (n ^^ b)) S3) X) X) X) := propext Iff.rfl
theorem q_uOLen {ms : Addr → TSp → Prop} {ta : UE} {ρ : Rho} {S : Sto} {Q : QV} {X : QX} : uOLen ms ta ρ S Q X = (ta ρ S (fun x S1 => ∃ C fs xs t, vw S1 x = .ins C fs xs ∧ ms C t ∧ t [x] S1 (fun z S2 => ∃ n : Int, z = .int n ∧ 0 ≤ n ∧ n < 9223372036854775808 ∧ Q (.int n) S2) X) X) := propext Iff.rfl
theorem q_uTry {K : PySem.W.Frag} {tb : US} {l : List (Value × Option Nat × SuU)} {D : UEnds} {X : XS} {ρ : Rho} {S : Sto} : uTry K tb l D X ρ S = (tb D (hX K D X l) ρ S) := propext Iff.rfl
theorem q_uXf {K : PySem.W.Frag} {e d : Addr} {k : Value} {f : Str} {te : UE} {ρ : Rho} {S : Sto} {Q : QV} {X : QX} : uXf K e d k f te ρ S Q X = (te ρ S (fun x S1 => ∃ C fs xs y, x = .exc e d k fs xs ∧ k = .ref C ∧ ExcC K C ∧ PySem.W.findIn K (.ref C) f = some none ∧ fget f fs xs = some y ∧ Q y S1) X) := propext Iff.rfl
theorem q_uIsE {K : PySem.W.Frag} {e d : Addr} {k u : Value} {te : UE} {ρ : Rho} {S : Sto} {Q : QV} {X : QX} : uIsE K e d k u te ρ S Q X = (te ρ S (fun x S1 => ∃ C fs xs b, x = .exc e d k fs xs ∧ k = .ref C ∧ ExcC K C ∧ PySem.W.kitOne K (.ref C) u = some b ∧ Q (.bl b) S1) X) := propext Iff.rfl
theorem q_uRaise {C : Addr} {fs : List Str} {ta : UA} {D : UEnds} {X : XS} {ρ : Rho} {S : Sto} : uRaise C fs ta D X ρ S = (ta ρ S (fun xs S1 => xs.length = fs.length ∧ X (.ref C) fs xs ρ S1) (atR X ρ)) := propext Iff.rfl
theorem q_uCallK {n m : Nat} {l : Pks} {ms : List Tr} {tsp : TSp} {ta tk : UA} {ρ : Rho} {S : Sto} {Q : QV} {X : QX} : uCallK n m l ms tsp ta tk ρ S Q X = (ta ρ S (fun xs S1 => tk ρ S1 (fun zs S2 => xs.length = n ∧ zs.length = m ∧ tsp (pick l xs ms zs) S2 Q X) X) X) := propext Iff.rfl
theorem q_uLcX {ui : UI} {p : Pat} {tt : UT} {te : UE} {vs : List Nat} {ρ : Rho} {S : Sto} {Q : QV} {X : QX} : uLcX ui p tt te vs ρ S Q X = (ui ρ S (fun wk S1 => uLcXL wk.ok p tt te (wipeR ρ vs) Q X wk.xs [] S1) X) := propext Iff.rfl
theorem q_uNewK {m : Nat} {l : Pks} {ms : List Tr} {tsp : TSp} {tk : UA} {ρ : Rho} {S : Sto} {Q : QV} {X : QX} : uNewK m l ms tsp tk ρ S Q X = (tk ρ S (fun zs S2 => zs.length = m ∧ tsp (pick l [] ms zs) S2 Q X) X) := propext Iff.rfl
theorem q_uOEq {K : PySem.W.Frag} {n : Bool} {ms : Addr → TSp → Prop} {ta tb : UE} {ρ : Rho} {S : Sto} {Q : QV} {X : QX} : uOEq K n ms ta tb ρ S Q X = (ta ρ S (fun x S1 => tb ρ S1 (fun y S2 => ∃ C fs xs t u, vw S2 x = .ins C fs xs ∧ ms C t ∧ tyT K (vw S2 y) u ∧ PySem.W.notFirst K C u = true ∧ t [x, y] S2 (fun z S3 => ∃ b, z = .bl b ∧ Q (.bl (n ^^ b)) S3) X) X) X) := propext Iff.rfl
theorem q_uListC {te : UE} {ρ : Rho} {S : Sto} {Q : QV} {X : QX} : uListC te ρ S Q X = (te ρ S (fun x S1 => ∃ ys, seqOf (vw S1 x) = some ys ∧ ∀ p, S1 p = none → Q (.ref p) (put S1 p (.lst ys))) X) := propext Iff.rfl
theorem q_uRev {te : UE} {ρ : Rho} {S : Sto} {Q : QV} {X : QX} : uRev te ρ S Q X = (te ρ S (fun x S1 => ∃ xs, asL (vw S1 x) = some xs ∧ Q (.lst xs.reverse) S1) X) := propext Iff.rfl
theorem q_uEnum2 {ta : UA} {ρ : Rho} {S : Sto} {R : Walk → Sto → Prop} {X : QX} : uEnum2 ta ρ S R X = (ta ρ S (fun ys S1 => ∃ x xs, ys = [x] ∧ (asL (vw S1 x) = some xs ∨ vw S1 x = .tup xs) ∧ R ⟨enumT 0 xs, fun S' => vw S' x = vw S1 x⟩ S1) X) := propext Iff.rfl
theorem q_uZip {ta : UA} {ρ : Rho} {S : Sto} {R : Walk → Sto → Prop} {X : QX} : uZip ta ρ S R X = (ta ρ S (fun us S1 => ∃ x y xs ys, us = [x, y] ∧ ((asL (vw S1 x) = some xs ∧ asL (vw S1 y) = some ys) ∨ (vw S1 x = .tup xs ∧ vw S1 y = .tup ys)) ∧ R ⟨zipT xs ys, fun S' => vw S' x = vw S1 x ∧ vw S' y = vw S1 y⟩ S1) X) := propext Iff.rfl
theorem q_uAddC {ta tb : UE} {ρ : Rho} {S : Sto} {Q : QV} {X : QX} : uAddC ta tb ρ S Q X = (ta ρ S (fun x S1 => tb ρ S1 (fun y S2 => ∃ xs ys, vw S2 x = .lst xs ∧ vw S2 y = .lst ys ∧ xs.length + ys.length ≤ sizeLine ∧ ∀ p, S2 p = none → Q (.ref p) (put S2 p (.lst (xs ++ ys)))) X) X) := propext Iff.rfl
theorem q_uFs {ts : List UE} {ρ : Rho} {S : Sto} {Q : QV} {X : QX} : uFs ts ρ S Q X = (uJs ts Str.empty ρ S (fun z S1 => Q (.str z) S1) X) := propext Iff.rfl
theorem q_uOBin2 {K : PySem.W.Frag} {op : Operator} {ms : Addr → TSp → Prop} {ta tb : UE} {ρ : Rho} {S : Sto} {Q : QV} {X : QX} : uOBin2 K op ms ta tb ρ S Q X = (ta ρ S (fun x S1 => tb ρ S1 (fun y S2 => ∃ C D fs xs gs zs t, vw S2 x = .ins C fs xs ∧ vw S2 y = .ins D gs zs ∧ OwnBin K op C D ∧ ms C t ∧ t [x, y] S2 Q X) X) X) := propext Iff.rfl
theorem q_uOInv {ms : Addr → TSp → Prop} {ta : UE} {ρ : Rho} {S : Sto} {Q : QV} {X : QX} : uOInv ms ta ρ S Q X = (ta ρ S (fun x S1 => ∃ C fs xs t, vw S1 x = .ins C fs xs ∧ ms C t ∧ t [x] S1 Q X) X) := propext Iff.rfl
theorem q_uCallO {ms : Addr → TSp → Prop} {tf : UE} {ta : UA} {ρ : Rho} {S : Sto} {Q : QV} {X : QX} : uCallO ms tf ta ρ S Q X = (tf ρ S (fun x S1 => (∃ C fs xs, vw S1 x = .ins C fs xs) ∧ ta ρ S1 (fun ys S2 => ∃ C gs zs t, vw S2 x = .ins C gs zs ∧ ms C t ∧ t (x :: ys) S2 Q X) X) X) := propext Iff.rfl
theorem q_uSrt {P : Addr} {q : Str} {tl tb : UE} {ρ : Rho} {S : Sto} {Q : QV} {X : QX} : uSrt P q tl tb ρ S Q X = (tl ρ S (fun x S1 => S1 P = some (codT q) ∧ ∃ (xs : List Tr) (key : Tr → Str), vw S1 x = .lst xs ∧ xs.length ≤ 100000 ∧ (∀ y ∈ xs, tb [some y] S1 (fun z S2 => z = .str (key y) ∧ S2 = S1) X0) ∧ Q (.lst (isort (ltT key) xs)) S1) X) := propext Iff.rfl
theorem q_uSet0 {P : Program} {w : World} {z0 : Rho} {S : Sto} {Q : QV} {z3 : QX} : uSet0 P w z0 S Q z3 = (∀ p, S p = none → Q (.ref p) (put S p (.opq (SetK P w p (fun _ => false) 0)))) := propext Iff.rfl
theorem q_uSAdd {P : Program} {w : World} {to ta : UE} {ρ : Rho} {S : Sto} {Q : QV} {X : QX} : uSAdd P w to ta ρ S Q X = (to ρ S (fun x S1 => (∃ p f n, x = .ref p ∧ S1 p = some (.opq (SetK P w p f n))) ∧ ta ρ S1 (fun y S2 => ∃ p k f n, x = .ref p ∧ y = kT k ∧ S2 p = some (.opq (SetK P w p f n)) ∧ n + 1 < scanBound ∧ Q .non (put S2 p (.opq (SetK P w p (fun j => f j || decide (j = k)) (if f k = true then n else n + 1))))) X) X) := propext Iff.rfl
theorem q_uSIn {P : Program} {w : World} {ta tb : UE} {ρ : Rho} {S : Sto} {Q : QV} {X : QX} : uSIn P w ta tb ρ S Q X = (ta ρ S (fun x S1 => tb ρ S1 (fun y S2 => ∃ p k f n, y = .ref p ∧ x = kT k ∧ S2 p = some (.opq (SetK P w p f n)) ∧ Q (.bl (f k)) S2) X) X) := propext Iff.rfl
theorem q_uChain {g g' : Tr → Tr → Tr → Prop} {ta tb tc : UE} {ρ : Rho} {S : Sto} {Q : QV} {X : QX} : uChain g g' ta tb tc ρ S Q X = (ta ρ S (fun x S1 => tb ρ S1 (fun y S2 => ∃ k, g (vw S2 x) (vw S2 y) (.bl k) ∧ if k = true then tc ρ S2 (fun u S3 => ∃ z, g' (vw S3 y) (vw S3 u) z ∧ Q z S3) X else Q (.bl false) S2) X) X) := propext Iff.rfl
theorem q_uKGet {kvs : KvT} {te tf : UE} {ρ : Rho} {S : Sto} {Q : QV} {X : QX} : uKGet kvs te tf ρ S Q X = (te ρ S (fun x S1 => tf ρ S1 (fun y S2 => ∃ z : Str, x = .str z ∧ Q ((kvs.lookup z).getD y) S2) X) X) := propext Iff.rfl
theorem q_uTryF {K : PySem.W.Frag} {tb : US} {c : Value} {i : Nat} {C : Addr} {fs : List Str} {ta : Addr → Addr → Value → UA} {D : UEnds} {X : XS} {ρ : Rho} {S : Sto} : uTryF K tb c i C fs ta D X ρ S = (tb D (xFrm K c i C fs ta X) ρ S) := propext Iff.rfl
theorem q_uMethZ {b : Bool} {C : Addr} {m : Str} {t : TSp} {to : UE} {ta : UA} {ρ : Rho} {S : Sto} {Q : QV} {X : QX} : uMethZ b C m t to ta ρ S Q X = (to ρ S (fun x S1 => ∃ fs xs, vw S1 x = .ins C fs xs ∧ fget m fs xs = none ∧ ta ρ S1 (fun ys S2 => t (x :: ys) S2 Q (if b = true then X else X0)) X) X) := propext Iff.rfl
theorem q_uTryZ {K : PySem.W.Frag} {tb : US} {l : List (Value × Option Nat × SuU)} {D : UEnds} {z1 : XS} {ρ : Rho} {S : Sto} : uTryZ K tb l D z1 ρ S = (tb D (hX K D XS0 l) ρ S) := propext Iff.rfl
theorem q_uCallC {C : Addr} {t : TSp} {ta : UA} {ρ : Rho} {S : Sto} {Q : QV} {X : QX} : uCallC C t ta ρ S Q X = (ta ρ S (fun xs S1 => t (.ref C :: xs) S1 Q X0) X) := propext Iff.rfl
theorem q_uNewKL {i : Nat} {C : Addr} {m : Nat} {l : Pks} {ms : List Tr} {tsp : TSp} {tk : UA} {ρ : Rho} {S : Sto} {Q : QV} {X : QX} : uNewKL i C m l ms tsp tk ρ S Q X = (ρ[i]? = some (some (.ref C)) ∧ tk ρ S (fun zs S2 => zs.length = m ∧ tsp (pick l [] ms zs) S2 Q X) X) := propext Iff.rfl
theorem q_uMatch {te : UE} {cs : UCs} {D : UEnds} {X : XS} {ρ : Rho} {S : Sto} : uMatch te cs D X ρ S = (te ρ S (fun x S1 => ∃ z : Str, x = .str z ∧ uCases cs z D X ρ S1) (atR X ρ)) := propext Iff.rfl
theorem q_uKIx {kvs : KvT} {te : UE} {ρ : Rho} {S : Sto} {Q : QV} {X : QX} : uKIx kvs te ρ S Q X = (te ρ S (fun x S1 => ∃ (z : Str) (t : Tr), x = .str z ∧ kvs.lookup z = some t ∧ Q t S1) X) := propext Iff.rfl
theorem q_uRep2 {q y z y2 z2 : Str} {te : UE} {ρ : Rho} {S : Sto} {Q : QV} {X : QX} : uRep2 q y z y2 z2 te ρ S Q X = (te ρ S (fun x S1 => ∃ s, x = .str s ∧ s.length + (s.length + 1) * z.length ≤ 16777216 ∧ (Txt.replace s y z).length + ((Txt.replace s y z).length + 1) * z2.length ≤ 16777216 ∧ q.length + (Txt.replace (Txt.replace s y z) y2 z2).length ≤ sizeLine ∧ Q (.str (q ++ Txt.replace (Txt.replace s y z) y2 z2)) S1) X) := propext Iff.rfl
-- nosimp: put_noneE hasK_nil0 law_start law_noexc calleeT_fn kt
/-! ### looking at trees -/
section
variable {S : Sto} {a p : Addr} {c x y z : Tr} {xs ys : List Tr} {ρ : Rho} {i j : Nat} {n k : Int} {b b' : Bool} {s t : Str} {Q : QV}
theorem vw_refE : vw S (.ref a) = (S a).getD (.ref a) := rfl
theorem vw_non : vw S .non = .non := rfl
theorem vw_bl : vw S (.bl b) = .bl b := rfl
theorem vw_int : vw S (.int n) = .int n := rfl
theorem vw_str : vw S (.str s) = .str s := rfl
theorem vw_ty {T : String} : vw S (.ty T) = .ty T := rfl
theorem vw_lstE : vw S (.lst xs) = .lst xs := rfl
theorem vw_tupE : vw S (.tup xs) = .tup xs := rfl
theorem vw_scrE {ns : List Int} : vw S (.scr ns) = .scr ns := rfl
theorem vw_dicE {ks : List Key} : vw S (.dic ks xs) = .dic ks xs := rfl
theorem vw_insE {C : Addr} {fs : List Str} : vw S (.ins C fs xs) = .ins C fs xs := rfl
theorem put_sameE : put S a c a = some c := put_same
theorem put_putE {d : Tr} : put (put S a c) a d = put S a d := put_put
theorem getD_some {v w : Tr} : (some v).getD w = v := rfl
/-! ### targets -/
theorem pat_nm : patR (.nm i) x ρ = some (ρ.set i (some x)) := by simp [patR]
theorem pat_tp {ps : List Pat} : patR (.tp ps) (.tup xs) ρ = patsR ps xs ρ := by simp [patR]
theorem pats_nil : patsR [] [] ρ = some ρ := by simp [patsR]
theorem pats_cons {q : Pat} {ps : List Pat} : patsR (q :: ps) (x :: xs) ρ = (patR q x ρ).bind (patsR ps xs) := by
  unfold patsR
  cases h : patR q x ρ <;> simp [h]
theorem bind_s {α β : Type} {v : α} {f : α → Option β} : (some v).bind f = f v := rfl
theorem loop_nil {ok : Sto → Prop} {q : Pat} {tb : US} {D : UEnds} {X : XS} : uLoop ok q tb D X [] ρ S = (ok S ∧ D.nx ρ S) := propext Iff.rfl
theorem loop_cons {ok : Sto → Prop} {q : Pat} {tb : US} {D : UEnds} {X : XS} : uLoop ok q tb D X (x :: xs) ρ S = (ok S ∧ ∃ ρ2, patR q x ρ = some ρ2 ∧ tb { D with nx := uLoop ok q tb D X xs, ct := uLoop ok q tb D X xs, bk := D.nx } X ρ2 S) := propext Iff.rfl
theorem lcl_nil {ok : Sto → Prop} {q : Pat} {tt : UT} {te : UE} : uLcL ok q tt te ρ Q [] ys S = (ok S ∧ Q (.lst ys) S) := propext Iff.rfl
theorem lcl_cons {ok : Sto → Prop} {q : Pat} {tt : UT} {te : UE} : uLcL ok q tt te ρ Q (x :: xs) ys S = (ok S ∧ ∃ ρ2, patR q x ρ = some ρ2 ∧ tt ρ2 S (fun b S3 => if b = true then te ρ2 S3 (fun y S4 => ys.length < sizeLine ∧ uLcL ok q tt te ρ Q xs (ys ++ [y]) S4) X0 else uLcL ok q tt te ρ Q xs ys S3) X0) := propext Iff.rfl
theorem prs_nil {R : List (Tr × Tr) → Sto → Prop} {X : QX} : uPairs [] ρ S R X = R [] S := propext Iff.rfl
theorem prs_cons {e f : UE} {r : List (UE × UE)} {R : List (Tr × Tr) → Sto → Prop} {X : QX} : uPairs ((e, f) :: r) ρ S R X = e ρ S (fun x S1 => f ρ S1 (fun y S2 => uPairs r ρ S2 (fun ps S3 => R ((x, y) :: ps) S3) X) X) X := propext Iff.rfl
/-! ### operators -/
theorem add_ii : gAdd (.int n) (.int k) z = (z = .int (n + k)) := rfl
theorem add_ss : gAdd (.str s) (.str t) z = (s.length + t.length ≤ sizeLine ∧ z = .str (s ++ t)) := rfl
theorem add_ll : gAdd (.lst xs) (.lst ys) z = (xs.length + ys.length ≤ sizeLine ∧ z = .lst (xs ++ ys)) := rfl
theorem add_tt : gAdd (.tup xs) (.tup ys) z = (xs.length + ys.length ≤ sizeLine ∧ z = .tup (xs ++ ys)) := rfl
theorem sortr_l : gSortR [.lst xs] z = ((∀ y ∈ xs, rowT y) ∧ (xs.map rowK).Nodup ∧ z = .lst (isort (fun a b => lexS (rowK a) (rowK b)) xs)) := rfl
theorem les_ss : gLeS (.str s) (.str t) z = (z = .bl (!ltS t s)) := rfl
theorem int2_ii {C : Int → Int → Prop} {f : Int → Int → Tr} : gInt2 C f (.int n) (.int k) z = (C n k ∧ z = f n k) := rfl
theorem mul_ii : gMul (.int n) (.int k) z = ((CMul n k ∨ CMulW n k) ∧ z = .int (n * k)) := rfl
theorem mul_li : gMul (.lst xs) (.int k) z = ((-(2 ^ 63) ≤ k ∧ k < 2 ^ 63 ∧ xs.length * k.toNat ≤ sizeLine) ∧ z = .lst (List.replicate k.toNat xs).flatten) := rfl
theorem mul2_ii : gMul2 (.int n) (.int k) z = ((CMul n k ∨ CMulW n k) ∧ z = .int (n * k)) := rfl
theorem mul2_li : gMul2 (.lst xs) (.int k) z = ((-(2 ^ 63) ≤ k ∧ k < 2 ^ 63 ∧ xs.length * k.toNat ≤ sizeLine) ∧ z = .lst (List.replicate k.toNat xs).flatten) := rfl
theorem mul2_si : gMul2 (.str s) (.int k) z = (MulOk s k ∧ z = .str (Txt.mul s k)) := rfl
theorem js_nil {acc : Str} {Q : Str → Sto → Prop} {X : QX} : uJs [] acc ρ S Q X = Q acc S := propext Iff.rfl
theorem js_cons {acc : Str} {t : UE} {ts : List UE} {Q : Str → Sto → Prop} {X : QX} : uJs (t :: ts) acc ρ S Q X = t ρ S (fun x S1 => ∃ y : Str, x = .str y ∧ (acc ++ y).length ≤ sizeLine ∧ uJs ts (acc ++ y) ρ S1 Q X) X := propext Iff.rfl
theorem fmt_s : gFmtS (.str s) z = (s.length ≤ 1000 ∧ z = .str (padR s 16)) := propext ⟨fun ⟨y, e, h⟩ => by cases e; exact h, fun h => ⟨_, rfl, h⟩⟩
theorem fmt_n : gFmtN (.int n) z = (0 ≤ n ∧ n.natAbs.log2 < 1920 ∧ (numT n).length ≤ sizeLine ∧ z = .str (numT n)) := propext ⟨fun ⟨y, e, h⟩ => by cases e; exact h, fun h => ⟨_, rfl, h⟩⟩
theorem fmt_0s : gFmt (.str s) z = (s.length ≤ sizeLine ∧ z = .str s) := propext ⟨fun h => by rcases h with ⟨y, e, h⟩ | ⟨y, e, h⟩ <;> cases e; exact h, fun h => .inl ⟨_, rfl, h⟩⟩
theorem fmt_0i : gFmt (.int n) z = (n.natAbs.log2 < 1920 ∧ z = .str (toString n)) := propext ⟨fun h => by rcases h with ⟨y, e, h⟩ | ⟨y, e, h⟩ <;> cases e; exact h, fun h => .inr ⟨_, rfl, h⟩⟩
theorem neg_i : gNeg (.int n) z = (z = .int (-n)) := rfl
theorem is_g : gIs b x y z = (isKT y = true ∧ z = .bl (b ^^ isT x y)) := rfl
theorem isk_n : isKT .non = true := rfl
theorem isk_b : isKT (.bl b) = true := rfl
theorem is_nn : isT .non .non = true := rfl
theorem is_bn : isT (.bl b) .non = false := rfl
theorem is_in : isT (.int n) .non = false := rfl
theorem is_sn : isT (.str s) .non = false := rfl
theorem is_rn : isT (.ref a) .non = false := rfl
theorem is_ln : isT (.lst xs) .non = false := rfl
theorem is_tn : isT (.tup xs) .non = false := rfl
theorem is_dn {ks : List Key} : isT (.dic ks xs) .non = false := rfl
theorem is_on {C : Addr} {fs : List Str} : isT (.ins C fs xs) .non = false := rfl
theorem is_nb : isT .non (.bl b) = false := rfl
theorem is_bb : isT (.bl b) (.bl b') = (b == b') := rfl
theorem is_ib : isT (.int n) (.bl b) = false := rfl
theorem is_sb : isT (.str s) (.bl b) = false := rfl
theorem is_rb : isT (.ref a) (.bl b) = false := rfl
theorem is_lb : isT (.lst xs) (.bl b) = false := rfl
theorem is_tb : isT (.tup xs) (.bl b) = false := rfl
theorem is_ob {C : Addr} {fs : List Str} : isT (.ins C fs xs) (.bl b) = false := rfl
theorem eq_ii : gEq b (.int n) (.int k) z = (z = .bl (b ^^ decide (n = k))) := by
  apply propext
  constructor
  · rintro (⟨c, e, h⟩ | ⟨e, _⟩)
    · cases e; exact h
    · cases e
  · exact fun h => .inl ⟨_, rfl, h⟩
theorem eq_ss : gEq b (.str s) (.str t) z = (z = .bl (b ^^ decide (s = t))) := by
  apply propext
  constructor
  · rintro (⟨c, e, h⟩ | ⟨e, _⟩)
    · cases e; exact h
    · cases e
  · exact fun h => .inl ⟨_, rfl, h⟩
theorem eq_bb {c d : Bool} : gEq b (.bl c) (.bl d) z = (z = .bl (b ^^ decide (c = d))) := by
  apply propext
  constructor
  · rintro (⟨c, e, h⟩ | ⟨e, _⟩)
    · cases e; exact h
    · cases e
  · exact fun h => .inl ⟨_, rfl, h⟩
theorem ix_s : gIx (.str s) (.int n) z = (s.length ≤ sizeLine ∧ ∃ c, atI s.cps.toList n = some c ∧ z = .str ⟨#[c]⟩) := by
  apply propext
  constructor
  · rintro ⟨h, i, c, e, h1, h2⟩; cases e; exact ⟨h, c, h1, h2⟩
  · rintro ⟨h, c, h1, h2⟩; exact ⟨h, n, c, rfl, h1, h2⟩
theorem ix_l : gIx (.lst xs) (.int n) z = (atI xs n = some z) := by
  apply propext
  exact ⟨fun ⟨i, e, h⟩ => by cases e; exact h, fun h => ⟨n, rfl, h⟩⟩
theorem ix_t : gIx (.tup xs) (.int n) z = (atI xs n = some z) := by
  apply propext
  exact ⟨fun ⟨i, e, h⟩ => by cases e; exact h, fun h => ⟨n, rfl, h⟩⟩
theorem ix_c {ns : List Int} : gIx (.scr ns) (.int n) z = (∃ m, atI ns n = some m ∧ z = .int m) := by
  apply propext
  exact ⟨fun ⟨i, e, h⟩ => by cases e; exact h, fun h => ⟨n, rfl, h⟩⟩
theorem ix_d {ks : List Key} : gIx (.dic ks xs) y z = (∃ k, keyT y = some k ∧ kget k ks xs = some z) := rfl
theorem key_i : keyT (.int n) = some (.inl n) := rfl
theorem key_s : keyT (.str s) = some (.inr s) := rfl
theorem at_0 : atI (x :: xs) 0 = some x := atI_nat (j := 0) rfl
theorem at_1 {w : Tr} : atI (x :: w :: xs) 1 = some w := atI_nat (j := 1) rfl
theorem at_2 {v w : Tr} : atI (x :: v :: w :: xs) 2 = some w := atI_nat (j := 2) rfl
theorem in_s : gIn b x (.str t) z = (∃ c, x = .str ⟨#[c]⟩ ∧ z = .bl (b ^^ decide (c ∈ t.cps.toList))) := rfl
theorem in_l : gIn b x (.lst ys) z = (∃ v vs, flatT x = some v ∧ flatTs ys = some vs ∧ z = .bl (b ^^ inV v vs)) := rfl
theorem in_t : gIn b x (.tup ys) z = (∃ v vs, flatT x = some v ∧ flatTs ys = some vs ∧ z = .bl (b ^^ inV v vs)) := rfl
theorem in_d {ks : List Key} : gIn b x (.dic ks xs) z = (∃ k, keyT x = some k ∧ z = .bl (b ^^ hasK k ks)) := rfl
theorem fl_i : flatT (.int n) = some (.int n) := rfl
theorem fl_s : flatT (.str s) = some (.str s) := rfl
theorem fl_b : flatT (.bl b) = some (.bl b) := rfl
theorem fl_n : flatT .non = some .non := rfl
theorem len_s : gLen [.str s] z = (s.length ≤ sizeLine ∧ z = .int s.length) := rfl
theorem len_l : gLen [.lst ys] z = (z = .int ys.length) := rfl
theorem len_c {ns : List Int} : gLen [.scr ns] z = (z = .int ns.length) := rfl
theorem len_t : gLen [.tup ys] z = (z = .int ys.length) := rfl
theorem len_d {ks : List Key} : gLen [.dic ks ys] z = (z = .int ks.length) := rfl
theorem abs_i : gAbs [.int n] z = (z = .int n.natAbs) := rfl
theorem int_i : gInt [.int n] z = (z = .int n) := rfl
theorem int_b : gInt [.bl b] z = (z = .int (if b then 1 else 0)) := rfl
theorem int_s : gInt [.str s] z = (∃ n, PySem.intText? s = some n ∧ s.length ≤ 640 ∧ z = .int n) := rfl
theorem str_i : gStr [.int n] z = (n.natAbs.log2 < 1920 ∧ z = .str (Str.ofString (toString n))) := rfl
theorem str_s : gStr [.str s] z = (z = .str s) := rfl
theorem mm_ii {f : Int → Int → Int} : gMM f [.int n, .int k] z = (z = .int (f n k)) := rfl
theorem list_l : gList [.lst ys] z = (z = .lst ys) := rfl
theorem list_t : gList [.tup ys] z = (z = .lst ys) := rfl
theorem list_c {ns : List Int} : gList [.scr ns] z = (z = .lst (ns.map Tr.int)) := rfl
theorem tuple_l : gTuple [.lst ys] z = (z = .tup ys) := rfl
theorem tuple_t : gTuple [.tup ys] z = (z = .tup ys) := rfl
theorem sl_s {lo hi : Option Int} : gSl (.str s) lo hi z = (s.length ≤ sizeLine ∧ z = .str (cutS s lo hi)) := rfl
theorem sl_l {lo hi : Option Int} : gSl (.lst xs) lo hi z = (z = .lst (cutT xs lo hi)) := rfl
theorem sl_t {lo hi : Option Int} : gSl (.tup xs) lo hi z = (z = .tup (cutT xs lo hi)) := rfl
theorem sl_c {ns : List Int} {lo hi : Option Int} : gSl (.scr ns) lo hi z = (z = .lst (cutT (ns.map Tr.int) lo hi)) := rfl
theorem asl_l : asL (.lst xs) = some xs := rfl
theorem asl_c {ns : List Int} : asL (.scr ns) = some (ns.map Tr.int) := rfl
theorem asl_t : asL (.tup xs) = none := rfl
theorem ok_l : tyOk "list" (.lst xs) = True := eq_true rfl
theorem ok_s : tyOk "str" (.str s) = True := eq_true rfl
theorem app_1 {as : List Tr} : gAppend S xs [y] as z = (xs.length < sizeLine ∧ as = xs ++ [y] ∧ z = .non) := rfl
theorem ext_1 {as : List Tr} : gExtend S xs [y] as z = (∃ zs, vw S y = .lst zs ∧ xs.length + zs.length ≤ sizeLine ∧ as = xs ++ zs ∧ z = .non) := rfl
theorem ins_1 {as : List Tr} : gInsert S xs [.int n, y] as z = (xs.length < sizeLine ∧ 0 ≤ n ∧ n < 2 ^ 63 ∧ as = xs.take n.toNat ++ [y] ++ xs.drop n.toNat ∧ z = .non) := rfl
theorem pop_1 {as : List Tr} : gPop S xs [] as z = (xs[xs.length - 1]? = some z ∧ as = xs.dropLast) := by
  unfold gPop; simp
theorem join_t : gJoin (.str s) [.tup ys] z = (∃ ts : List Str, ys = ts.map Tr.str ∧ (ts.map (·.length)).sum + ts.length * s.length ≤ 16777216 ∧ z = .str (Txt.join s ts)) := rfl
theorem join_l : gJoin (.str s) [.lst ys] z = (∃ ts : List Str, ys = ts.map Tr.str ∧ (ts.map (·.length)).sum + ts.length * s.length ≤ 16777216 ∧ z = .str (Txt.join s ts)) := rfl
theorem isdig : gIsdigit (.str s) [] z = (z = .bl (Txt.isdigit s)) := rfl
theorem rmp : gRmp (.str s) [.str t] z = (s.length ≤ sizeLine ∧ z = .str (Txt.removeprefix s t)) := rfl
theorem all_l {f : List Bool → Bool} : gAll f [.lst ys] z = (∃ bs, blsOf ys = some bs ∧ z = .bl (f bs)) := rfl
end
section
variable {K : PySem.W.Frag} {x c : Tr} {z : Tr} {t u : Value} {n : Int} {b : Bool} {s : Str} {xs : List Tr}
theorem isi_2 : gIsi K [x, c] z = (∃ t u b, tyT K x t ∧ clsT c u ∧ PySem.W.kitOne K t u = some b ∧ z = .bl b) := rfl
theorem ty_n : tyT K .non t = (t = .type "NoneType") := rfl
theorem ty_b : tyT K (.bl b) t = (t = .type "bool") := rfl
theorem ty_i : tyT K (.int n) t = (t = .type "int") := rfl
theorem ty_s : tyT K (.str s) t = (t = .type "str") := rfl
theorem ty_l : tyT K (.lst xs) t = (t = .type "list") := rfl
theorem ty_t : tyT K (.tup xs) t = (t = .type "tuple") := rfl
theorem ty_o {C : Addr} {fs : List Str} : tyT K (.ins C fs xs) t = (ClsI K C ∧ t = .ref C) := rfl
theorem cls_t {T : String} : clsT (.ty T) u = (u = .type T) := rfl
theorem cls_c {C : Addr} : clsT (.ref C) u = (u = .ref C) := rfl
theorem kt {n T : String} {b : Bool} (h : kitB n T = some b) : PySem.W.kitOne K (.type n) (.type T) = some b := kit_ty h
theorem k_ni : PySem.W.kitOne K (.type "NoneType") (.type "int") = some false := kt kb_NoneType_int
theorem k_ns : PySem.W.kitOne K (.type "NoneType") (.type "str") = some false := kt kb_NoneType_str
theorem k_nb : PySem.W.kitOne K (.type "NoneType") (.type "bool") = some false := kt kb_NoneType_bool
theorem k_nl : PySem.W.kitOne K (.type "NoneType") (.type "list") = some false := kt kb_NoneType_list
theorem k_nt : PySem.W.kitOne K (.type "NoneType") (.type "tuple") = some false := kt kb_NoneType_tuple
theorem k_bi : PySem.W.kitOne K (.type "bool") (.type "int") = some true := kt kb_bool_int
theorem k_bs : PySem.W.kitOne K (.type "bool") (.type "str") = some false := kt kb_bool_str
theorem k_bb : PySem.W.kitOne K (.type "bool") (.type "bool") = some true := kt kb_bool_bool
theorem k_bl : PySem.W.kitOne K (.type "bool") (.type "list") = some false := kt kb_bool_list
theorem k_bt : PySem.W.kitOne K (.type "bool") (.type "tuple") = some false := kt kb_bool_tuple
theorem k_ii : PySem.W.kitOne K (.type "int") (.type "int") = some true := kt kb_int_int
theorem k_is : PySem.W.kitOne K (.type "int") (.type "str") = some false := kt kb_int_str
theorem k_ib : PySem.W.kitOne K (.type "int") (.type "bool") = some false := kt kb_int_bool
theorem k_il : PySem.W.kitOne K (.type "int") (.type "list") = some false := kt kb_int_list
theorem k_it : PySem.W.kitOne K (.type "int") (.type "tuple") = some false := kt kb_int_tuple
theorem k_si : PySem.W.kitOne K (.type "str") (.type "int") = some false := kt kb_str_int
theorem k_ss : PySem.W.kitOne K (.type "str") (.type "str") = some true := kt kb_str_str
theorem k_sb : PySem.W.kitOne K (.type "str") (.type "bool") = some false := kt kb_str_bool
theorem k_sl : PySem.W.kitOne K (.type "str") (.type "list") = some false := kt kb_str_list
theorem k_st : PySem.W.kitOne K (.type "str") (.type "tuple") = some false := kt kb_str_tuple
theorem k_li : PySem.W.kitOne K (.type "list") (.type "int") = some false := kt kb_list_int
theorem k_ls : PySem.W.kitOne K (.type "list") (.type "str") = some false := kt kb_list_str
theorem k_lb : PySem.W.kitOne K (.type "list") (.type "bool") = some false := kt kb_list_bool
theorem k_ll : PySem.W.kitOne K (.type "list") (.type "list") = some true := kt kb_list_list
theorem k_lt : PySem.W.kitOne K (.type "list") (.type "tuple") = some false := kt kb_list_tuple
theorem k_ti : PySem.W.kitOne K (.type "tuple") (.type "int") = some false := kt kb_tuple_int
theorem k_ts : PySem.W.kitOne K (.type "tuple") (.type "str") = some false := kt kb_tuple_str
theorem k_tb : PySem.W.kitOne K (.type "tuple") (.type "bool") = some false := kt kb_tuple_bool
theorem k_tl : PySem.W.kitOne K (.type "tuple") (.type "list") = some false := kt kb_tuple_list
theorem k_tt : PySem.W.kitOne K (.type "tuple") (.type "tuple") = some true := kt kb_tuple_tuple
end
theorem ofS_inj {a b : String} : (Str.ofString a = Str.ofString b) = (a = b) := by
  apply propext
  constructor
  · intro h
    have e := congrArg tl h
    rw [tl_ofString, tl_ofString] at e
    have e2 : a.toList = b.toList := by
      have inj : ∀ {l m : List Char}, l.map Char.toNat = m.map Char.toNat → l = m := by
        intro l
        induction l with
        | nil => intro m h; cases m with
          | nil => rfl
          | cons _ _ => cases h
        | cons x l ih => intro m h; cases m with
          | nil => cases h
          | cons y m =>
            rw [List.map_cons, List.map_cons] at h
            injection h with h1 h2
            rw [ih h2, Char.toNat_inj.mp h1]
      exact inj e
    exact String.toList_inj.mp e2
  · rintro rfl; rfl
theorem fget_c {f g : Str} {gs : List Str} {x : Tr} {xs : List Tr} : fget f (g :: gs) (x :: xs) = if f = g then some x else fget f gs xs := rfl
theorem fget_n {f : Str} {xs : List Tr} : fget f [] xs = none := rfl
theorem fputN_n {f : Str} : fputN f [] = [f] := rfl
theorem fputN_c {f g : Str} {gs : List Str} : fputN f (g :: gs) = if g = f then g :: gs else g :: fputN f gs := rfl
theorem fputX_n {f : Str} {y : Tr} {xs : List Tr} : fputX f y [] xs = [y] := by cases xs <;> rfl
theorem fputX_c {f g : Str} {gs : List Str} {x y : Tr} {xs : List Tr} : fputX f y (g :: gs) (x :: xs) = if g = f then y :: xs else x :: fputX f y gs xs := rfl
theorem map_vw0 {S : Sto} : ([] : List Tr).map (vw S) = [] := rfl
theorem map_vw {S : Sto} {x : Tr} {xs : List Tr} : (x :: xs).map (vw S) = vw S x :: xs.map (vw S) := rfl
theorem xFrmE {K : PySem.W.Frag} {c : Value} {i : Nat} {C : Addr} {fs : List Str} {ta : Addr → Addr → Value → UA} {X : XS} {k : Value} {gs : List Str} {xs : List Tr} {ρ : Rho} {S : Sto} : xFrm K c i C fs ta X k gs xs ρ S = (∃ y, PySem.W.exmOne K k c = some y ∧
  (y = true → (∃ B, k = .ref B ∧ ExcC K B) ∧ i < ρ.length ∧ ∀ e d, ta e d k (ρ.set i (some (.exc e d k gs xs))) S (fun ys S2 => ys.length = fs.length ∧ X (.ref C) fs ys (ρ.set i none) S2) X0) ∧ (y = false → X k gs xs ρ S)) := propext Iff.rfl
theorem hX_nil {K : PySem.W.Frag} {D : UEnds} {X : XS} {k : Value} {fs : List Str} {xs : List Tr} {ρ : Rho} {S : Sto} : hX K D X [] k fs xs ρ S = X k fs xs ρ S := rfl
theorem hX_only {K : PySem.W.Frag} {D : UEnds} {X : XS} {k c : Value} {u : SuU} {r : List (Value × Option Nat × SuU)} {fs : List Str} {xs : List Tr} {ρ : Rho} {S : Sto} : hX K D X ((c, none, u) :: r) k fs xs ρ S = (∃ y, PySem.W.exmOne K k c = some y ∧ (y = true → ∀ e d, u e d k D XS0 ρ S) ∧ (y = false → hX K D X r k fs xs ρ S)) := propext Iff.rfl
theorem hX_named {K : PySem.W.Frag} {D : UEnds} {X : XS} {k c : Value} {i : Nat} {u : SuU} {r : List (Value × Option Nat × SuU)} {fs : List Str} {xs : List Tr} {ρ : Rho} {S : Sto} : hX K D X ((c, some i, u) :: r) k fs xs ρ S = (∃ y, PySem.W.exmOne K k c = some y ∧ (y = true → ∀ e d, u e d k (clrU i D) XS0 (ρ.set i (some (.exc e d k fs xs))) S) ∧ (y = false → hX K D X r k fs xs ρ S)) := propext Iff.rfl
theorem len_tf1 {x : Tr} {f : Str} : ([x].length = [f].length) = True := eq_true rfl
theorem len_tf2 {x y : Tr} {f g : Str} : ([x, y].length = [f, g].length) = True := eq_true rfl
theorem len_tf3 {x y z : Tr} {f g h : Str} : ([x, y, z].length = [f, g, h].length) = True := eq_true rfl
theorem clrU_nx {i : Nat} {D : UEnds} {ρ : Rho} {S : Sto} : (clrU i D).nx ρ S = D.nx (ρ.set i none) S := rfl
theorem clrU_rt {i : Nat} {D : UEnds} {x : Tr} {S : Sto} : (clrU i D).rt x S = D.rt x S := rfl
theorem clrU_bk {i : Nat} {D : UEnds} {ρ : Rho} {S : Sto} : (clrU i D).bk ρ S = D.bk (ρ.set i none) S := rfl
theorem clrU_ct {i : Nat} {D : UEnds} {ρ : Rho} {S : Sto} : (clrU i D).ct ρ S = D.ct (ρ.set i none) S := rfl
theorem vw_excE {S : Sto} {e d : Addr} {k : Value} {fs : List Str} {xs : List Tr} : vw S (.exc e d k fs xs) = .exc e d k fs xs := rfl
theorem atR_e {X : XS} {ρ : Rho} {c : Value} {fs : List Str} {xs : List Tr} {S : Sto} : atR X ρ c fs xs S = X c fs xs ρ S := rfl
theorem wipeR_n {ρ : Rho} : wipeR ρ [] = ρ := rfl
theorem wipeR_c {ρ : Rho} {i : Nat} {r : List Nat} : wipeR ρ (i :: r) = (wipeR ρ r).set i none := rfl
theorem endX_e {X : QX} {ρ : Rho} {c : Value} {fs : List Str} {xs : List Tr} {S : Sto} : endX X c fs xs ρ S = X c fs xs S := rfl
theorem endU_nx {Q : QV} {ρ : Rho} {S : Sto} : (endU Q).nx ρ S = Q .non S := rfl
theorem endU_rt {Q : QV} {x : Tr} {S : Sto} : (endU Q).rt x S = Q x S := rfl
theorem srcV_e {i : Nat} {ρ : Rho} {S : Sto} {ks : List Key} {xs : List Tr} : srcV i ρ S ks xs = (ρ[i]? = some (some (.dic ks xs))) := rfl
theorem srcF_e {K : PySem.W.Frag} {i : Nat} {f : Str} {ρ : Rho} {S : Sto} {ks : List Key} {xs : List Tr} : srcF K i f ρ S ks xs = (∃ (x : Tr) (C : Addr) (fs : List Str) (ys : List Tr), ρ[i]? = some (some x) ∧ vw S x = .ins C fs ys ∧ ClsF K C f ∧ fget f fs ys = some (.dic ks xs)) := propext Iff.rfl
theorem cmul_rE {i j : Int} (h1 : -18446744073709551616 < j) (h2 : j < 18446744073709551616) : (CMul i j ∨ CMulW i j) = True := eq_true (.inl (.inr ⟨h1, h2⟩))
theorem cmul_lE {i j : Int} (h1 : -18446744073709551616 < i) (h2 : i < 18446744073709551616) : (CMul i j ∨ CMulW i j) = True := eq_true (.inl (.inl ⟨h1, h2⟩))
theorem cpow_E {n : Int} (h0 : 0 ≤ n) (h1 : n ≤ 1000) : CPow 10 n = True := eq_true ⟨h0, by omega, by decide⟩
theorem szT0 : (([] : List Tr).length ≤ sizeLine) = True := eq_true (by show 0 ≤ sizeLine; decide)
theorem szT1 {x0 : Tr} : (([x0] : List Tr).length ≤ sizeLine) = True := eq_true (by show 1 ≤ sizeLine; decide)
theorem szT2 {x0 x1 : Tr} : (([x0, x1] : List Tr).length ≤ sizeLine) = True := eq_true (by show 2 ≤ sizeLine; decide)
theorem szT3 {x0 x1 x2 : Tr} : (([x0, x1, x2] : List Tr).length ≤ sizeLine) = True := eq_true (by show 3 ≤ sizeLine; decide)
theorem szT4 {x0 x1 x2 x3 : Tr} : (([x0, x1, x2, x3] : List Tr).length ≤ sizeLine) = True := eq_true (by show 4 ≤ sizeLine; decide)
theorem szT5 {x0 x1 x2 x3 x4 : Tr} : (([x0, x1, x2, x3, x4] : List Tr).length ≤ sizeLine) = True := eq_true (by show 5 ≤ sizeLine; decide)
theorem szT6 {x0 x1 x2 x3 x4 x5 : Tr} : (([x0, x1, x2, x3, x4, x5] : List Tr).length ≤ sizeLine) = True := eq_true (by show 6 ≤ sizeLine; decide)
theorem szT7 {x0 x1 x2 x3 x4 x5 x6 : Tr} : (([x0, x1, x2, x3, x4, x5, x6] : List Tr).length ≤ sizeLine) = True := eq_true (by show 7 ≤ sizeLine; decide)
theorem szT8 {x0 x1 x2 x3 x4 x5 x6 x7 : Tr} : (([x0, x1, x2, x3, x4, x5, x6, x7] : List Tr).length ≤ sizeLine) = True := eq_true (by show 8 ≤ sizeLine; decide)
/-! ### classes as the top has made them; the law's end -/
structure ClsTop (K : PySem.W.Frag) (mg : Str → Option Value) (x : Str) (C : Addr) : Prop where
  mg : mg x = some (.ref C)
  ci : ClsI K C
  kp : PySem.W.keepIn K (.ref C) = true
  mak : PySem.W.makesIn K C = true
def sp_law : TSp := fun xs S Q X => ∃ ns : List Int, xs = [.scr ns] ∧ ns.length ≤ 63 ∧ Q (.bl true) S
theorem law_start {K : PySem.W.Frag} {H : Hp} {a : Addr} {ns : List Int} (hl : ns.length ≤ 63) (hS : SqL K H a (ns.map V.int)) : lSp K sp_law [.ref a] H (fun v _ => v = .bl true) (fun _ _ _ => False) := by
  refine ⟨fun _ => none, fun _ => none, fun _ => none, fun b => if b = a then H b else none, [.scr ns], ⟨fun b o e => ?_, fun b od e => (nomatch e), fun b c e => (nomatch e), fun b o e => (nomatch e)⟩, .cons ⟨a, rfl, ?_⟩ rfl, ns, rfl, hl, fun v H' I' _ _ r => r⟩
  · split at e
    · exact e
    · cases e
  · rcases hS with (h | ⟨o, h⟩) | h
    · exact .inl (.inl (by simpa using h))
    · exact .inl (.inr ⟨o, by simpa using h⟩)
    · exact .inr h
theorem law_noexc {P : Program} {w : World} {outer : List Env} {H : Hp} {s s' : Shared} {e : Value} (h : L2N.CX P w outer H s (fun _ _ _ => False) e s') : False := by
  obtain ⟨_, _, _, _, _, _, _, _, _, _, _, _, z⟩ := h
  exact z
theorem calleeT_fn {P : Program} {w : World} {K : PySem.W.Frag} {mg : Str → Option Value} {base : Heap} {k : Nat} {x : Str} {ps : List Str} {t : TSp} {st : Stmt} {f : Addr} {fd : FuncData} (F : Fun K x x st f fd) (g : mg x = some (.ref f)) (C : CalleeT P w K mg base k x ps t) : FnOk P w K mg base (L2N.CX P w) k f fd ps (lSp K t) := by
  obtain ⟨f', fd', g', kp, b, R, oc', od', sl', lk'⟩ := C.ex
  rw [g] at g'
  cases g'
  obtain ⟨oc, od, kV, doc, pm, an, cdv, ct, osl, e, lk, _⟩ := F.ex
  rw [lk] at lk'
  cases lk'
  exact R
theorem ex_sw1 {α β : Type} {p : β → Prop} {f : β → α} {q : α → Prop} : (∃ x, (∃ c, p c ∧ x = f c) ∧ q x) = (∃ c, p c ∧ q (f c)) := by
  apply propext
  exact ⟨fun ⟨x, ⟨c, h, e⟩, g⟩ => ⟨c, h, e ▸ g⟩, fun ⟨c, h, g⟩ => ⟨_, ⟨c, h, rfl⟩, g⟩⟩
theorem ex_sw2 {α β : Type} {p r : β → Prop} {f : β → α} {q : α → Prop} : (∃ x, (∃ c, p c ∧ r c ∧ x = f c) ∧ q x) = (∃ c, p c ∧ r c ∧ q (f c)) := by
  apply propext
  exact ⟨fun ⟨x, ⟨c, h, h2, e⟩, g⟩ => ⟨c, h, h2, e ▸ g⟩, fun ⟨c, h, h2, g⟩ => ⟨_, ⟨c, h, h2, rfl⟩, g⟩⟩
theorem kT_i {n : Int} : kT (.inl n) = .int n := rfl
theorem kT_s {z : Str} : kT (.inr z) = .str z := rfl
theorem sgn_inj {a b : Nat} : ((⟨#[a]⟩ : Str) = ⟨#[b]⟩) = (a = b) := by
  apply propext
  exact ⟨fun h => by injection h with h; injection h with h; injection h, fun h => h ▸ rfl⟩
theorem vw_kT {S : Sto} {k : Key} : vw S (kT k) = kT k := by cases k <;> rfl
theorem beq_ft : (false == true) = false := rfl
theorem beq_tf : (true == false) = false := rfl
theorem pick_nilE {us mv ws : List Tr} : pick [] us mv ws = [] := rfl
theorem pick_0E {i : Nat} {l : List (Nat × Nat)} {us mv ws : List Tr} {x : Tr} (h : us[i]? = some x) : pick ((0, i) :: l) us mv ws = x :: pick l us mv ws := pick_0 h
theorem pick_1E {i : Nat} {l : List (Nat × Nat)} {us mv ws : List Tr} {x : Tr} (h : mv[i]? = some x) : pick ((1, i) :: l) us mv ws = x :: pick l us mv ws := pick_1 h
theorem pick_2E {i : Nat} {l : List (Nat × Nat)} {us mv ws : List Tr} {x : Tr} (h : ws[i]? = some x) : pick ((2, i) :: l) us mv ws = x :: pick l us mv ws := pick_2 h
theorem str4_i {i : Int} {z : Tr} : gStr4 [.int i] z = (i.natAbs.log2 < 1920 ∧ z = .str (Str.ofString (toString i))) := rfl
theorem str4_s {a : Str} {z : Tr} : gStr4 [.str a] z = (z = .str a) := rfl
theorem str4_b {b : Bool} {z : Tr} : gStr4 [.bl b] z = (z = .str (if b then Str.ofString "True" else Str.ofString "False")) := rfl
theorem str4_n {z : Tr} : gStr4 [.non] z = (z = .str (Str.ofString "None")) := rfl
theorem list3_l {xs : List Tr} {z : Tr} : gList3 [.lst xs] z = (z = .lst xs) := by show (∃ ys, some xs = some ys ∧ _) = _; simp
theorem list3_t {xs : List Tr} {z : Tr} : gList3 [.tup xs] z = (z = .lst xs) := by show (∃ ys, some xs = some ys ∧ _) = _; simp
theorem list3_c {ns : List Int} {z : Tr} : gList3 [.scr ns] z = (z = .lst (ns.map Tr.int)) := by show (∃ ys, some _ = some ys ∧ _) = _; simp
theorem list3_d {ks : List Key} {xs : List Tr} {z : Tr} : gList3 [.dic ks xs] z = (z = .lst (ks.map kT)) := by show (∃ ys, some _ = some ys ∧ _) = _; simp
theorem seqOf_l {xs : List Tr} : seqOf (.lst xs) = some xs := rfl
theorem seqOf_t {xs : List Tr} : seqOf (.tup xs) = some xs := rfl
theorem seqOf_c {ns : List Int} : seqOf (.scr ns) = some (ns.map Tr.int) := rfl
theorem seqOf_d {ks : List Key} {xs : List Tr} : seqOf (.dic ks xs) = some (ks.map kT) := rfl
theorem lenE0 : (([] : List Tr).length = 0) = True := eq_true rfl
theorem lenE1 {x0 : Tr} : (([x0] : List Tr).length = 1) = True := eq_true rfl
theorem lenE2 {x0 x1 : Tr} : (([x0, x1] : List Tr).length = 2) = True := eq_true rfl
theorem lenE3 {x0 x1 x2 : Tr} : (([x0, x1, x2] : List Tr).length = 3) = True := eq_true rfl
theorem lenE4 {x0 x1 x2 x3 : Tr} : (([x0, x1, x2, x3] : List Tr).length = 4) = True := eq_true rfl
theorem lenE5 {x0 x1 x2 x3 x4 : Tr} : (([x0, x1, x2, x3, x4] : List Tr).length = 5) = True := eq_true rfl
theorem lenE6 {x0 x1 x2 x3 x4 x5 : Tr} : (([x0, x1, x2, x3, x4, x5] : List Tr).length = 6) = True := eq_true rfl
theorem lenE7 {x0 x1 x2 x3 x4 x5 x6 : Tr} : (([x0, x1, x2, x3, x4, x5, x6] : List Tr).length = 7) = True := eq_true rfl
theorem lenE8 {x0 x1 x2 x3 x4 x5 x6 x7 : Tr} : (([x0, x1, x2, x3, x4, x5, x6, x7] : List Tr).length = 8) = True := eq_true rfl
theorem lenE9 {x0 x1 x2 x3 x4 x5 x6 x7 x8 : Tr} : (([x0, x1, x2, x3, x4, x5, x6, x7, x8] : List Tr).length = 9) = True := eq_true rfl
theorem lenE10 {x0 x1 x2 x3 x4 x5 x6 x7 x8 x9 : Tr} : (([x0, x1, x2, x3, x4, x5, x6, x7, x8, x9] : List Tr).length = 10) = True := eq_true rfl
theorem lenS0 : ([] : List Str).length = 0 := rfl
theorem lenS1 {x0 : Str} : ([x0] : List Str).length = 1 := rfl
theorem lenS2 {x0 x1 : Str} : ([x0, x1] : List Str).length = 2 := rfl
theorem lenS3 {x0 x1 x2 : Str} : ([x0, x1, x2] : List Str).length = 3 := rfl
theorem lenS4 {x0 x1 x2 x3 : Str} : ([x0, x1, x2, x3] : List Str).length = 4 := rfl
theorem lenS5 {x0 x1 x2 x3 x4 : Str} : ([x0, x1, x2, x3, x4] : List Str).length = 5 := rfl
theorem lenS6 {x0 x1 x2 x3 x4 x5 : Str} : ([x0, x1, x2, x3, x4, x5] : List Str).length = 6 := rfl
theorem lenS7 {x0 x1 x2 x3 x4 x5 x6 : Str} : ([x0, x1, x2, x3, x4, x5, x6] : List Str).length = 7 := rfl
theorem lenS8 {x0 x1 x2 x3 x4 x5 x6 x7 : Str} : ([x0, x1, x2, x3, x4, x5, x6, x7] : List Str).length = 8 := rfl
theorem lenS9 {x0 x1 x2 x3 x4 x5 x6 x7 x8 : Str} : ([x0, x1, x2, x3, x4, x5, x6, x7, x8] : List Str).length = 9 := rfl
theorem lenS10 {x0 x1 x2 x3 x4 x5 x6 x7 x8 x9 : Str} : ([x0, x1, x2, x3, x4, x5, x6, x7, x8, x9] : List Str).length = 10 := rfl
theorem mapS_nil : (([] : List (Str × Tr)).map fun x => x.2) = [] := rfl
theorem mapS_cons {q : Str × Tr} {l : List (Str × Tr)} : ((q :: l).map fun x => x.2) = q.2 :: l.map fun x => x.2 := rfl
theorem nil_l {n : Bool} {xs : List Tr} {z : Tr} : gNil n (.lst xs) (.lst []) z = (z = .bl (n ^^ xs.isEmpty)) := by
  refine propext ⟨fun ⟨_, ys, e, h⟩ => ?_, fun h => ⟨rfl, xs, rfl, h⟩⟩
  cases e
  exact h
theorem eqF_g {n : Bool} {x y z : Tr} {c : Bool} (h : eqF x y = some c) : gEq n x y z = (z = .bl (n ^^ c)) := by
  apply propext
  constructor
  · rintro (⟨d, e, q⟩ | ⟨e, _⟩)
    · rw [h] at e; cases e; exact q
    · rw [h] at e; cases e
  · exact fun q => .inl ⟨_, h, q⟩
theorem eq_nn {n : Bool} {z : Tr} : gEq n .non .non z = (z = .bl (n ^^ true)) := eqF_g rfl
theorem eq_ns {n : Bool} {a : Str} {z : Tr} : gEq n .non (.str a) z = (z = .bl (n ^^ false)) := eqF_g rfl
theorem eq_sn {n : Bool} {a : Str} {z : Tr} : gEq n (.str a) .non z = (z = .bl (n ^^ false)) := eqF_g rfl
theorem eq_ni {n : Bool} {a : Int} {z : Tr} : gEq n .non (.int a) z = (z = .bl (n ^^ false)) := eqF_g rfl
theorem eq_in {n : Bool} {a : Int} {z : Tr} : gEq n (.int a) .non z = (z = .bl (n ^^ false)) := eqF_g rfl
theorem eq_is {n : Bool} {a : Int} {c : Str} {z : Tr} : gEq n (.int a) (.str c) z = (z = .bl (n ^^ false)) := eqF_g rfl
theorem eq_si {n : Bool} {a : Str} {c : Int} {z : Tr} : gEq n (.str a) (.int c) z = (z = .bl (n ^^ false)) := eqF_g rfl
theorem popAt_1 {S : Sto} {xs as : List Tr} {i : Int} {z : Tr} : gPopAt S xs [.int i] as z = (0 ≤ i ∧ i < 2 ^ 63 ∧ xs[i.toNat]? = some z ∧ as = xs.eraseIdx i.toNat) := by
  refine propext ⟨fun ⟨j, e, h⟩ => ?_, fun h => ⟨i, rfl, h⟩⟩
  cases e
  exact h
theorem ix3_0 {a b c : Tr} : ixN [a, b, c].length 0 = some 0 := rfl
theorem ix3_1 {a b c : Tr} : ixN [a, b, c].length 1 = some 1 := rfl
theorem ix3_2 {a b c : Tr} : ixN [a, b, c].length 2 = some 2 := rfl
theorem q_qCell {Q : QV} {S : Sto} {xs : List Tr} : qCell Q (.lst xs) S = (∀ p, S p = none → Q (.ref p) (put S p (.lst xs))) := propext ⟨fun ⟨_, e, q⟩ => by cases e; exact q, fun q => ⟨_, rfl, q⟩⟩
theorem strp {s : Str} {z : Tr} : gStrip (.str s) [] z = (s.length ≤ sizeLine ∧ z = .str (Txt.strip s)) := rfl
theorem upr {s : Str} {z : Tr} : gUpper (.str s) [] z = (s.length ≤ 5592405 ∧ z = .str (Txt.upper s)) := rfl
theorem q_uCv {C : Addr} {t : Tr} {te : UE} {ρ : Rho} {S : Sto} {Q : QV} {X : QX} : uCv C t te ρ S Q X = te ρ S (fun x S1 => x = .ref C ∧ Q t S1) X := propext Iff.rfl
theorem q_rep4 {xs : List Tr} {k : Int} {z : Tr} : gRep (.lst xs) (.int k) z = (-(2 ^ 63) ≤ k ∧ k < 2 ^ 63 ∧ xs.length * k.toNat ≤ sizeLine ∧ z = .lst (List.replicate k.toNat xs).flatten) := rfl
theorem q_uAsgL {ps : List Pat} {te : UE} {D : UEnds} {X : XS} {ρ : Rho} {S : Sto} : uAsgL ps te D X ρ S = (te ρ S (fun x S1 => ∃ xs, asL (vw S1 x) = some xs ∧ ∃ ρ2, patsR ps xs ρ = some ρ2 ∧ D.nx ρ2 S1) (atR X ρ)) := propext Iff.rfl
theorem q_uPar3 {i j l : Nat} {ta : UA} {D : UEnds} {X : XS} {ρ : Rho} {S : Sto} : uPar3 i j l ta D X ρ S = (ta ρ S (fun xs S1 => ∃ x y z, xs = [x, y, z] ∧ D.nx (((ρ.set i (some x)).set j (some y)).set l (some z)) S1) (atR X ρ)) := propext Iff.rfl
theorem q_uCases0 {z : Str} {D : UEnds} {X : XS} {ρ : Rho} {S : Sto} : uCases [] z D X ρ S = D.nx ρ S := rfl
theorem q_uCases1 {c : List Str} {u : US} {cs : UCs} {z : Str} {D : UEnds} {X : XS} {ρ : Rho} {S : Sto} : uCases ((c, u) :: cs) z D X ρ S = (if z ∈ c then u D X ρ S else uCases cs z D X ρ S) := rfl

end KQ
namespace KQ
open PySem PySem.Spec PyProof.Rows L2 TL KB
/-! ### the source of draws: a dict of six -/
def srcKs : List Key := [.inr "cells", .inr "at", .inr "rest", .inr "seed", .inr "room", .inr "long"]
def srcT (ns : List Int) (at_ rest seed room long : Int) : Tr := .dic srcKs [.lst (ns.map Tr.int), .int at_, .int rest, .int seed, .int room, .int long]
theorem sk_nd : srcKs.Nodup := by decide +kernel
theorem sget_cells {x b c d e f : Tr} : kget (.inr (Str.ofString "cells")) srcKs [x, b, c, d, e, f] = some x := by
  simp [srcKs, kget, ofS_inj]
theorem sget_at {x b c d e f : Tr} : kget (.inr (Str.ofString "at")) srcKs [x, b, c, d, e, f] = some b := by
  simp [srcKs, kget, ofS_inj]
theorem sget_rest {x b c d e f : Tr} : kget (.inr (Str.ofString "rest")) srcKs [x, b, c, d, e, f] = some c := by
  simp [srcKs, kget, ofS_inj]
theorem sget_seed {x b c d e f : Tr} : kget (.inr (Str.ofString "seed")) srcKs [x, b, c, d, e, f] = some d := by
  simp [srcKs, kget, ofS_inj]
theorem sget_room {x b c d e f : Tr} : kget (.inr (Str.ofString "room")) srcKs [x, b, c, d, e, f] = some e := by
  simp [srcKs, kget, ofS_inj]
theorem sget_long {x b c d e f : Tr} : kget (.inr (Str.ofString "long")) srcKs [x, b, c, d, e, f] = some f := by
  simp [srcKs, kget, ofS_inj]
theorem sN {k : Key} (h : hasK k srcKs = true) : kputN k srcKs = srcKs := if_pos h
theorem shas_at : hasK (.inr (Str.ofString "at")) srcKs = true := by decide +kernel
theorem shas_rest : hasK (.inr (Str.ofString "rest")) srcKs = true := by decide +kernel
theorem shas_seed : hasK (.inr (Str.ofString "seed")) srcKs = true := by decide +kernel
theorem shas_room : hasK (.inr (Str.ofString "room")) srcKs = true := by decide +kernel
theorem shas_long : hasK (.inr (Str.ofString "long")) srcKs = true := by decide +kernel
theorem sput_at {x b c d e f y : Tr} : kputX (.inr (Str.ofString "at")) y srcKs [x, b, c, d, e, f] = [x, y, c, d, e, f] := by
  unfold kputX; rw [if_pos shas_at]; simp [srcKs, kmap, ofS_inj]
theorem sput_rest {x b c d e f y : Tr} : kputX (.inr (Str.ofString "rest")) y srcKs [x, b, c, d, e, f] = [x, b, y, d, e, f] := by
  unfold kputX; rw [if_pos shas_rest]; simp [srcKs, kmap, ofS_inj]
theorem sput_seed {x b c d e f y : Tr} : kputX (.inr (Str.ofString "seed")) y srcKs [x, b, c, d, e, f] = [x, b, c, y, e, f] := by
  unfold kputX; rw [if_pos shas_seed]; simp [srcKs, kmap, ofS_inj]
theorem sput_room {x b c d e f y : Tr} : kputX (.inr (Str.ofString "room")) y srcKs [x, b, c, d, e, f] = [x, b, c, d, y, f] := by
  unfold kputX; rw [if_pos shas_room]; simp [srcKs, kmap, ofS_inj]
theorem sput_long {x b c d e f y : Tr} : kputX (.inr (Str.ofString "long")) y srcKs [x, b, c, d, e, f] = [x, b, c, d, e, y] := by
  unfold kputX; rw [if_pos shas_long]; simp [srcKs, kmap, ofS_inj]
theorem sN_at : kputN (.inr (Str.ofString "at")) srcKs = srcKs := sN shas_at
theorem sN_rest : kputN (.inr (Str.ofString "rest")) srcKs = srcKs := sN shas_rest
theorem sN_seed : kputN (.inr (Str.ofString "seed")) srcKs = srcKs := sN shas_seed
theorem sN_room : kputN (.inr (Str.ofString "room")) srcKs = srcKs := sN shas_room
theorem sN_long : kputN (.inr (Str.ofString "long")) srcKs = srcKs := sN shas_long
theorem sk_len : (srcKs.length < sizeLine) = True := eq_true (by show 6 < sizeLine; decide)
theorem srcT_eq {ns : List Int} {a r s m l : Int} : srcT ns a r s m l = .dic srcKs [.lst (ns.map Tr.int), .int a, .int r, .int s, .int m, .int l] := rfl
theorem int_at {ns : List Int} {i : Int} (h0 : 0 ≤ i) (h1 : i < ns.length) : ∃ n, atI (ns.map Tr.int) i = some (.int n) := by
  obtain ⟨j, rfl⟩ := Int.eq_ofNat_of_zero_le h0
  have hj : j < ns.length := by omega
  exact ⟨ns[j], atI_nat (by rw [List.getElem?_map, List.getElem?_eq_getElem hj]; rfl)⟩
theorem ne_cell {S : Sto} {a p : Addr} {c : Tr} (h : S a = some c) (n : S p = none) : p ≠ a := fun z => by subst z; rw [h] at n; cases n
/-! ### loops by an invariant -/
theorem loop_inv {ok : Sto → Prop} {p : Pat} {tb : US} {D : UEnds} {X : XS} (xs : List Tr) (Pv : Nat → Rho → Sto → Prop)
    (hs : ∀ (i : Nat) (x : Tr) (ρ : Rho) (S : Sto) (N : QS), xs[i]? = some x → Pv i ρ S → (∀ ρ' S', Pv (i + 1) ρ' S' → N ρ' S') → ok S ∧ ∃ ρ2, patR p x ρ = some ρ2 ∧ tb { D with nx := N, ct := N, bk := D.nx } X ρ2 S)
    (he : ∀ ρ S, Pv xs.length ρ S → ok S ∧ D.nx ρ S) {ρ : Rho} {S : Sto} (h0 : Pv 0 ρ S) : uLoop ok p tb D X xs ρ S := by
  have key : ∀ (n i : Nat) (ρ : Rho) (S : Sto), i + n = xs.length → Pv i ρ S → uLoop ok p tb D X (xs.drop i) ρ S := by
    intro n
    induction n with
    | zero =>
      intro i ρ S e h
      have e' : i = xs.length := by omega
      subst e'
      rw [List.drop_length]
      exact he ρ S h
    | succ n ih =>
      intro i ρ S e h
      have hl : i < xs.length := by omega
      rw [List.drop_eq_getElem_cons hl]
      exact hs i _ ρ S _ (List.getElem?_eq_getElem hl) h fun ρ' S' h' => ih (i + 1) ρ' S' (by omega) h'
  exact key xs.length 0 ρ S (by omega) h0
theorem lc_inv {ok : Sto → Prop} {p : Pat} {tt : UT} {te : UE} {ρ : Rho} {Q : QV} (xs : List Tr) (Pv : Nat → List Tr → Sto → Prop)
    (hs : ∀ (i : Nat) (x : Tr) (acc : List Tr) (S : Sto) (N : List Tr → Sto → Prop), xs[i]? = some x → Pv i acc S → (∀ acc' S', Pv (i + 1) acc' S' → N acc' S') → ok S ∧ ∃ ρ2, patR p x ρ = some ρ2 ∧ tt ρ2 S (fun b S3 => if b = true then te ρ2 S3 (fun y S4 => acc.length < sizeLine ∧ N (acc ++ [y]) S4) X0 else N acc S3) X0)
    (he : ∀ acc S, Pv xs.length acc S → ok S ∧ Q (.lst acc) S) {S : Sto} (h0 : Pv 0 [] S) : uLcL ok p tt te ρ Q xs [] S := by
  have key : ∀ (n i : Nat) (acc : List Tr) (S : Sto), i + n = xs.length → Pv i acc S → uLcL ok p tt te ρ Q (xs.drop i) acc S := by
    intro n
    induction n with
    | zero =>
      intro i acc S e h
      have e' : i = xs.length := by omega
      subst e'
      rw [List.drop_length]
      exact he acc S h
    | succ n ih =>
      intro i acc S e h
      have hl : i < xs.length := by omega
      rw [List.drop_eq_getElem_cons hl]
      exact hs i _ acc S _ (List.getElem?_eq_getElem hl) h fun acc' S' h' => ih (i + 1) acc' S' (by omega) h'
  exact key xs.length 0 [] S (by omega) h0
theorem rng_at {n i : Nat} {x : Tr} (h : (rngT 0 n)[i]? = some x) : x = .int i ∧ i < n := by
  have hi : i < n := by
    by_cases z : i < n
    · exact z
    · rw [List.getElem?_eq_none (by rw [rngT_len]; omega)] at h; cases h
  rw [rngT_get n 0 i hi] at h
  cases h
  exact ⟨by rw [Int.zero_add], hi⟩
theorem szn {n : Nat} (h : n ≤ 100000) : n < sizeLine := KB.sizeN h
/-! ### sources -/
def SrcOk (c : Tr) : Prop := ∃ (ns : List Int) (at_ rest seed room long : Int), c = srcT ns at_ rest seed room long ∧ 0 ≤ at_ ∧ 0 ≤ rest
def roomOf : Tr → Int
  | .dic _ [_, _, _, _, .int r, _] => r
  | _ => 0
/-- d is the source c after some draws -/
structure Drw (c d : Tr) : Prop where
  ok : SrcOk d
  rm : roomOf d = roomOf c
theorem Drw.trans {c d e : Tr} (h : Drw c d) (g : Drw d e) : Drw c e := ⟨g.ok, g.rm.trans h.rm⟩
theorem Drw.refl {c : Tr} (h : SrcOk c) : Drw c c := ⟨h, rfl⟩
def sp_draw : TSp := fun xs S Q X => ∃ (a : Addr) (m : Int) (c : Tr), xs = [.ref a, .int m] ∧ S a = some c ∧ SrcOk c ∧ 0 < m ∧ m ≤ 1000000000000000000000000000000 ∧ ∀ (r : Int) (c' : Tr), 0 ≤ r → r < m → Drw c c' → Q (.int r) (put S a c')
theorem cdiv_ok {i m : Int} (h0 : 0 < m) (h1 : m ≤ 1000000000000000000000000000000) : CDivW i m := by
  refine ⟨h0, ?_⟩
  by_cases h : m.natAbs = 0
  · rw [h]; decide
  · exact (Nat.log2_lt h).mpr (Nat.lt_of_le_of_lt (show m.natAbs ≤ 1000000000000000000000000000000 by omega) (Nat.lt_of_lt_of_le (show 1000000000000000000000000000000 < 2 ^ 100 by decide) (Nat.pow_le_pow_right (by decide) (by decide))))
theorem draw_ok {S : Sto} {a : Addr} {c : Tr} {m : Int} {Q : QV} {X : QX} (hS : S a = some c) (hc : SrcOk c) (m0 : 0 < m) (m1 : m ≤ 1000000000000000000000000000000) (hq : ∀ (r : Int) (c' : Tr), 0 ≤ r → r < m → Drw c c' → Q (.int r) (put S a c')) : sp_draw [.ref a, .int m] S Q X := ⟨a, m, c, rfl, hS, hc, m0, m1, hq⟩
/-- a draw of something: what it is by P -/
def sp_some (P : Tr → Prop) : TSp := fun xs S Q X => ∃ (a : Addr) (c : Tr), xs = [.ref a] ∧ S a = some c ∧ SrcOk c ∧ ∀ (y c' : Tr), P y → Drw c c' → Q y (put S a c')
theorem some_ok {P : Tr → Prop} {S : Sto} {a : Addr} {c : Tr} {Q : QV} {X : QX} (hS : S a = some c) (hc : SrcOk c) (hq : ∀ (y c' : Tr), P y → Drw c c' → Q y (put S a c')) : sp_some P [.ref a] S Q X := ⟨a, c, rfl, hS, hc, hq⟩
/-! ### a source of five -/
def srcKs5 : List Key := [.inr "cells", .inr "at", .inr "rest", .inr "seed", .inr "room"]
def srcT5 (ns : List Int) (at_ rest seed room : Int) : Tr := .dic srcKs5 [.lst (ns.map Tr.int), .int at_, .int rest, .int seed, .int room]
theorem s5get_cells {x b c d e : Tr} : kget (.inr (Str.ofString "cells")) srcKs5 [x, b, c, d, e] = some x := by simp [srcKs5, kget, ofS_inj]
theorem s5get_at {x b c d e : Tr} : kget (.inr (Str.ofString "at")) srcKs5 [x, b, c, d, e] = some b := by simp [srcKs5, kget, ofS_inj]
theorem s5get_rest {x b c d e : Tr} : kget (.inr (Str.ofString "rest")) srcKs5 [x, b, c, d, e] = some c := by simp [srcKs5, kget, ofS_inj]
theorem s5get_seed {x b c d e : Tr} : kget (.inr (Str.ofString "seed")) srcKs5 [x, b, c, d, e] = some d := by simp [srcKs5, kget, ofS_inj]
theorem s5get_room {x b c d e : Tr} : kget (.inr (Str.ofString "room")) srcKs5 [x, b, c, d, e] = some e := by simp [srcKs5, kget, ofS_inj]
theorem s5N {k : Key} (h : hasK k srcKs5 = true) : kputN k srcKs5 = srcKs5 := if_pos h
theorem s5has_at : hasK (.inr (Str.ofString "at")) srcKs5 = true := by decide +kernel
theorem s5has_rest : hasK (.inr (Str.ofString "rest")) srcKs5 = true := by decide +kernel
theorem s5has_seed : hasK (.inr (Str.ofString "seed")) srcKs5 = true := by decide +kernel
theorem s5put_at {x b c d e y : Tr} : kputX (.inr (Str.ofString "at")) y srcKs5 [x, b, c, d, e] = [x, y, c, d, e] := by
  unfold kputX; rw [if_pos s5has_at]; simp [srcKs5, kmap, ofS_inj]
theorem s5put_rest {x b c d e y : Tr} : kputX (.inr (Str.ofString "rest")) y srcKs5 [x, b, c, d, e] = [x, b, y, d, e] := by
  unfold kputX; rw [if_pos s5has_rest]; simp [srcKs5, kmap, ofS_inj]
theorem s5put_seed {x b c d e y : Tr} : kputX (.inr (Str.ofString "seed")) y srcKs5 [x, b, c, d, e] = [x, b, c, y, e] := by
  unfold kputX; rw [if_pos s5has_seed]; simp [srcKs5, kmap, ofS_inj]
theorem s5N_at : kputN (.inr (Str.ofString "at")) srcKs5 = srcKs5 := s5N s5has_at
theorem s5N_rest : kputN (.inr (Str.ofString "rest")) srcKs5 = srcKs5 := s5N s5has_rest
theorem s5N_seed : kputN (.inr (Str.ofString "seed")) srcKs5 = srcKs5 := s5N s5has_seed
theorem s5k_len : (srcKs5.length < sizeLine) = True := eq_true (by show 5 < sizeLine; decide)
theorem srcT5_eq {ns : List Int} {a r s m : Int} : srcT5 ns a r s m = .dic srcKs5 [.lst (ns.map Tr.int), .int a, .int r, .int s, .int m] := rfl
def IsNum (y : Tr) : Prop := ∃ n : Int, y = .int n ∧ n.natAbs < 10 ^ 30
def IsSign (y : Tr) : Prop := ∃ c : Nat, y = .str ⟨#[c]⟩ ∧ 32 ≤ c ∧ c < 127
def IsTxt (m : Nat) (y : Tr) : Prop := ∃ z : Str, y = .str z ∧ Pr z ∧ z.length ≤ m
def KOk : Key → Prop
  | .inl n => n.natAbs < 10 ^ 30
  | .inr z => Pr z ∧ z.length ≤ 300
def IsKey (y : Tr) : Prop := ∃ k, y = kT k ∧ KOk k
theorem IsNum.key {y : Tr} (h : IsNum y) : IsKey y := let ⟨n, e, h⟩ := h; ⟨.inl n, e, h⟩
theorem IsTxt.key {y : Tr} {m : Nat} (h : IsTxt m y) (hm : m ≤ 300) : IsKey y := let ⟨z, e, h, l⟩ := h; ⟨.inr z, e, h, Nat.le_trans l hm⟩
/-- an item of a written list -/
theorem menu_ex {xs : List Tr} {n : Nat} {r : Int} {R : Tr → Prop} (hn : xs.length = n) (r0 : 0 ≤ r) (r1 : r < n) (k : ∀ x ∈ xs, R x) : ∃ x, atI xs r = some x ∧ R x := by
  obtain ⟨j, rfl⟩ := Int.eq_ofNat_of_zero_le r0
  have hj : j < xs.length := by omega
  exact ⟨xs[j], atI_nat (List.getElem?_eq_getElem hj), k _ (List.getElem_mem hj)⟩
def okTx (m : Nat) : Tr → Bool
  | .str z => KB.okV m (.str z)
  | _ => false
theorem menu_tx {xs : List Tr} {m n : Nat} {r : Int} {R : Tr → Prop} (hn : xs.length = n) (hz : xs.all (okTx m) = true) (r0 : 0 ≤ r) (r1 : r < n) (k : ∀ z, Pr z → z.length ≤ m → R (.str z)) : ∃ x, atI xs r = some x ∧ R x := menu_ex hn r0 r1 fun x hx => by
  have q := List.all_eq_true.mp hz x hx
  cases x with
  | str z => exact k z (okS_pr q).1 (okS_pr q).2
  | _ => cases q
/-! ### a second cell beside the source -/
theorem put3 {S : Sto} {a b : Addr} (n : b ≠ a) (d e f : Tr) : put (put (put S a d) b e) a f = put (put S a f) b e := by rw [put_comm n, put_put]
theorem put_id {S : Sto} {a : Addr} {c : Tr} (h : S a = some c) : put S a c = S := by
  funext b
  by_cases e : b = a
  · subst e; rw [put_same, h]
  · rw [put_ne e]
theorem sub_new {S : Sto} {p : Addr} {c : Tr} (h : S p = none) : Sub S (put S p c) := fun b d e => by rw [put_ne (fun z => by subst z; rw [h] at e; cases e)]; exact e
/-! ### keys -/
theorem kV_in (k : Key) (ks : List Key) : inV (kV k) (ks.map kV) = hasK k ks := by
  have e : ∀ a b : Key, eqV (kV a) (kV b) = decide (a = b) := fun a b => by
    cases a <;> cases b
    · show (_ == _) = _
      rw [Bool.eq_iff_iff, beq_iff_eq, decide_eq_true_eq, Sum.inl.injEq]
    · exact (decide_eq_false (fun h => nomatch h)).symm
    · exact (decide_eq_false (fun h => nomatch h)).symm
    · show (_ == _) = _
      rw [Bool.eq_iff_iff, beq_iff_eq, decide_eq_true_eq, Sum.inr.injEq]
  rw [Bool.eq_iff_iff, hasK_iff]
  unfold inV
  rw [List.any_eq_true]
  constructor
  · rintro ⟨y, hy, h⟩
    obtain ⟨j, hj, rfl⟩ := List.mem_map.mp hy
    rw [e, decide_eq_true_eq] at h
    exact h ▸ hj
  · intro h
    exact ⟨kV k, List.mem_map.mpr ⟨k, h, rfl⟩, by rw [e]; exact decide_eq_true rfl⟩
theorem nodup_put {k : Key} {ks : List Key} (h : ks.Nodup) (n : hasK k ks = false) : (ks ++ [k]).Nodup := by
  rw [List.nodup_append]
  refine ⟨h, by simp, fun a ha b hb z => ?_⟩
  rw [List.mem_singleton] at hb
  subst hb; subst z
  rw [hasK_iff.mpr ha] at n
  cases n
/-- xs != [] of a list of keys -/
theorem kT_toD : ∀ {ks : List Key}, (∀ k ∈ ks, KOk k) → ∃ ds, toDs (ks.map kT) = some ds ∧ PyData.canLayAll0 ds = true ∧ PyData.depthAll ds ≤ 1 ∧ ds.length = ks.length
  | [], _ => ⟨[], rfl, rfl, by decide, rfl⟩
  | k :: ks, h => by
    obtain ⟨ds, e, h1, h2, h3⟩ := kT_toD (ks := ks) fun j hj => h j (List.mem_cons_of_mem _ hj)
    cases k with
    | inl n =>
      refine ⟨.int n :: ds, by rw [List.map_cons]; unfold toDs; rw [e]; rfl, ?_, ?_, by simp [h3]⟩
      · show (true && PyData.canLayAll0 ds) = true
        rw [h1]; rfl
      · show max (PyData.depth (.int n)) (PyData.depthAll ds) ≤ 1
        have : PyData.depth (.int n) ≤ 1 := by simp [PyData.depth]
        omega
    | inr z =>
      refine ⟨.str z :: ds, by rw [List.map_cons]; unfold toDs; rw [e]; rfl, ?_, ?_, by simp [h3]⟩
      · show (PyData.strOk z && PyData.canLayAll0 ds) = true
        rw [h1, KB.pr_strOk (h _ (List.mem_cons_self ..)).1]; rfl
      · show max (PyData.depth (.str z)) (PyData.depthAll ds) ≤ 1
        have : PyData.depth (.str z) ≤ 1 := by simp [PyData.depth]
        omega
end KQ
namespace KQ
open PySem PySem.Spec PyProof.Rows L2 TL KB
/-! ### values, as models and as what the program makes of them -/
mutual
def mT : Val → Tr
  | .non => .non
  | .bl b => .bl b
  | .int n => .int n
  | .str z => .str z
  | .lst vs => .tup [.str "list", .lst (mTL vs)]
  | .tup vs => .tup [.str "tuple", .lst (mTL vs)]
  | .tab ks vs => .tup [.str "table", .lst (mTP ks vs)]
def mTL : List Val → List Tr
  | [] => []
  | v :: vs => mT v :: mTL vs
def mTP : List Key → List Val → List Tr
  | k :: ks, v :: vs => .tup [kT k, mT v] :: mTP ks vs
  | _, _ => []
end
mutual
def vT (C : Addr) : Val → Tr
  | .non => .non
  | .bl b => .bl b
  | .int n => .int n
  | .str z => .str z
  | .lst vs => .lst (vTL C vs)
  | .tup vs => .tup (vTL C vs)
  | .tab ks vs => .ins C ["held"] [.dic ks (vTL C vs)]
def vTL (C : Addr) : List Val → List Tr
  | [] => []
  | v :: vs => vT C v :: vTL C vs
end
mutual
def VOk : Val → Prop
  | .non => True
  | .bl _ => True
  | .int n => n.natAbs < 10 ^ 30
  | .str z => Pr z ∧ z.length ≤ 300
  | .lst vs => VOkL vs
  | .tup vs => VOkL vs
  | .tab ks vs => VOkL vs ∧ ks.length = vs.length ∧ (∀ k ∈ ks, KOk k) ∧ ks.Nodup
def VOkL : List Val → Prop
  | [] => True
  | v :: vs => VOk v ∧ VOkL vs
end
theorem VOkL.snoc : ∀ {vs : List Val} {v : Val}, VOkL vs → VOk v → VOkL (vs ++ [v])
  | [], _, _, h => ⟨h, trivial⟩
  | w :: vs, v, h, g => ⟨h.1, VOkL.snoc h.2 g⟩
theorem VOkL.get : ∀ {vs : List Val} {i : Nat} {v : Val}, VOkL vs → vs[i]? = some v → VOk v
  | [], i, v, _, e => by simp at e
  | w :: vs, 0, v, h, e => (Option.some.inj e) ▸ h.1
  | w :: vs, i + 1, v, h, e => VOkL.get (vs := vs) (i := i) h.2 e
theorem vpL_snoc : ∀ (vs : List Val) (v : Val), vpartsL (vs ++ [v]) = vpartsL vs + vparts v
  | [], v => by simp [vpartsL]
  | w :: vs, v => by
    show vparts w + vpartsL (vs ++ [v]) = vparts w + vpartsL vs + vparts v
    rw [vpL_snoc vs v]; omega
/-! ### the same but for the order of tables -/
mutual
def Shf : Val → Val → Prop
  | .lst vs, w => ∃ ws, w = .lst ws ∧ ShfL vs ws
  | .tup vs, w => ∃ ws, w = .tup ws ∧ ShfL vs ws
  | .tab ks vs, w => ∃ js ws us, w = .tab js ws ∧ ShfL vs us ∧ js.length = ws.length ∧ (js.zip ws).Perm (ks.zip us)
  | v, w => w = v
def ShfL : List Val → List Val → Prop
  | [], ws => ws = []
  | v :: vs, ws => ∃ w us, ws = w :: us ∧ Shf v w ∧ ShfL vs us
end
theorem ShfL.snoc : ∀ {vs ws : List Val} {v w : Val}, ShfL vs ws → Shf v w → ShfL (vs ++ [v]) (ws ++ [w])
  | [], _, v, w, h, g => by cases h; exact ⟨w, [], rfl, g, rfl⟩
  | x :: vs, _, v, w, h, g => by
    obtain ⟨y, us, rfl, h1, h2⟩ := h
    exact ⟨y, us ++ [w], rfl, h1, h2.snoc g⟩
theorem ShfL.len : ∀ {vs ws : List Val}, ShfL vs ws → ws.length = vs.length
  | [], _, h => by cases h; rfl
  | x :: vs, _, h => by
    obtain ⟨y, us, rfl, h1, h2⟩ := h
    exact congrArg (· + 1) h2.len
/-! ### tables as pairs -/
def pK (ps : List (Key × Val)) : List Key := ps.map (·.1)
def pV (ps : List (Key × Val)) : List Val := ps.map (·.2)
def tabV (ps : List (Key × Val)) : Val := .tab (pK ps) (pV ps)
/-- what the pairs of a law's table keep to -/
structure PsOk (n : Nat) (ps : List (Key × Val)) : Prop where
  nd : (pK ps).Nodup
  len : ps.length ≤ n
  ok : ∀ p ∈ ps, KOk p.1 ∧ VOk p.2 ∧ vdepth p.2 ≤ 3 ∧ vparts p.2 ≤ 100
theorem pv_bounds : ∀ {ps : List (Key × Val)}, (∀ p ∈ ps, KOk p.1 ∧ VOk p.2 ∧ vdepth p.2 ≤ 3 ∧ vparts p.2 ≤ 100) → VOkL (pV ps) ∧ vdepthL (pV ps) ≤ 3 ∧ vpartsL (pV ps) ≤ 100 * ps.length
  | [], _ => ⟨trivial, by decide, by decide⟩
  | p :: ps, h => by
    obtain ⟨h1, h2, h3⟩ := pv_bounds (ps := ps) fun q hq => h q (List.mem_cons_of_mem _ hq)
    obtain ⟨g1, g2, g3, g4⟩ := h p (List.mem_cons_self ..)
    refine ⟨⟨g2, h1⟩, ?_, ?_⟩
    · show max (vdepth p.2) (vdepthL (pV ps)) ≤ 3; omega
    · show vparts p.2 + vpartsL (pV ps) ≤ 100 * (ps.length + 1); omega
theorem PsOk.val {n : Nat} {ps : List (Key × Val)} (h : PsOk n ps) : VOk (tabV ps) ∧ vdepth (tabV ps) ≤ 4 ∧ vparts (tabV ps) ≤ 1 + 100 * n := by
  obtain ⟨h1, h2, h3⟩ := pv_bounds h.ok
  have := h.len
  refine ⟨⟨h1, by unfold pK pV; simp, fun k hk => ?_, h.nd⟩, ?_, ?_⟩
  · obtain ⟨p, hp, rfl⟩ := List.mem_map.mp hk
    exact (h.ok p hp).1
  · show 1 + vdepthL (pV ps) ≤ 4; omega
  · show 1 + vpartsL (pV ps) ≤ 1 + 100 * n; omega
def putP (k : Key) (v : Val) (ps : List (Key × Val)) : List (Key × Val) := if hasK k (pK ps) = true then ps.map (fun p => (p.1, if p.1 = k then v else p.2)) else ps ++ [(k, v)]
def takeP (k : Key) (ps : List (Key × Val)) : List (Key × Val) := ps.filter fun p => !decide (p.1 = k)
theorem PsOk.more {n m : Nat} {ps : List (Key × Val)} (h : PsOk n ps) (l : n ≤ m) : PsOk m ps := ⟨h.nd, Nat.le_trans h.len l, h.ok⟩
theorem PsOk.take {n : Nat} {k : Key} {ps : List (Key × Val)} (h : PsOk n ps) : PsOk n (takeP k ps) :=
  ⟨h.nd.sublist (List.Sublist.map _ List.filter_sublist), Nat.le_trans (List.length_filter_le ..) h.len, fun p hp => h.ok p (List.mem_filter.mp hp).1⟩
theorem PsOk.put {n : Nat} {k : Key} {v : Val} {ps : List (Key × Val)} (h : PsOk n ps) (hk : KOk k) (h1 : VOk v) (h2 : vdepth v ≤ 3) (h3 : vparts v ≤ 100) : PsOk (n + 1) (putP k v ps) := by
  unfold putP
  have := h.len
  split
  · refine ⟨?_, by rw [List.length_map]; omega, fun p hp => ?_⟩
    · have e : pK (ps.map (fun p => (p.1, if p.1 = k then v else p.2))) = pK ps := by unfold pK; rw [List.map_map]; rfl
      rw [e]; exact h.nd
    · obtain ⟨q, hq, rfl⟩ := List.mem_map.mp hp
      have g := h.ok q hq
      refine ⟨g.1, ?_⟩
      show VOk (if q.1 = k then v else q.2) ∧ vdepth (if q.1 = k then v else q.2) ≤ 3 ∧ vparts (if q.1 = k then v else q.2) ≤ 100
      split
      · exact ⟨h1, h2, h3⟩
      · exact g.2
  · rename_i hn
    refine ⟨?_, by rw [List.length_append]; show ps.length + 1 ≤ _; omega, fun p hp => ?_⟩
    · have e : pK (ps ++ [(k, v)]) = pK ps ++ [k] := by unfold pK; rw [List.map_append]; rfl
      rw [e]; exact nodup_put h.nd (by simpa using hn)
    · rcases List.mem_append.mp hp with hp | hp
      · exact h.ok p hp
      · rw [List.mem_singleton.mp hp]; exact ⟨hk, h1, h2, h3⟩
def lookP (k : Key) (qs : List (Key × Val)) : Option Val := (qs.find? fun q => decide (q.1 = k)).map (·.2)
def orP (ps qs : List (Key × Val)) : List (Key × Val) := ps.map (fun p => (p.1, (lookP p.1 qs).getD p.2)) ++ qs.filter fun q => !hasK q.1 (pK ps)
theorem pK_or {ps qs : List (Key × Val)} : pK (orP ps qs) = pK ps ++ pK (qs.filter fun q => !hasK q.1 (pK ps)) := by
  unfold orP pK
  rw [List.map_append, List.map_map]
  rfl
theorem has_filter {k : Key} {qs : List (Key × Val)} {f : Key → Bool} : hasK k (pK (qs.filter fun q => f q.1)) = (f k && hasK k (pK qs)) := by
  rw [Bool.eq_iff_iff, Bool.and_eq_true, hasK_iff, hasK_iff]
  constructor
  · intro h
    obtain ⟨q, hq, rfl⟩ := List.mem_map.mp h
    have := List.mem_filter.mp hq
    exact ⟨this.2, List.mem_map.mpr ⟨q, this.1, rfl⟩⟩
  · rintro ⟨h1, h2⟩
    obtain ⟨q, hq, rfl⟩ := List.mem_map.mp h2
    exact List.mem_map.mpr ⟨q, List.mem_filter.mpr ⟨hq, h1⟩, rfl⟩
theorem look_mem {k : Key} {v : Val} {qs : List (Key × Val)} (h : lookP k qs = some v) : (k, v) ∈ qs := by
  unfold lookP at h
  cases e : qs.find? fun q => decide (q.1 = k) with
  | none => rw [e] at h; cases h
  | some q =>
    rw [e] at h
    have h1 := List.mem_of_find?_eq_some e
    have h2 : q.1 = k := by have := List.find?_some e; simpa using this
    cases h
    rw [← h2]
    exact h1
theorem PsOk.filter {n : Nat} {f : Key × Val → Bool} {ps : List (Key × Val)} (h : PsOk n ps) : PsOk n (ps.filter f) :=
  ⟨h.nd.sublist (List.Sublist.map _ List.filter_sublist), Nat.le_trans (List.length_filter_le ..) h.len, fun p hp => h.ok p (List.mem_filter.mp hp).1⟩
theorem PsOk.or {n m : Nat} {ps qs : List (Key × Val)} (h : PsOk n ps) (g : PsOk m qs) : PsOk (n + m) (orP ps qs) := by
  have h1 := h.len
  have h2 := g.len
  refine ⟨?_, ?_, fun p hp => ?_⟩
  · rw [pK_or, List.nodup_append]
    refine ⟨h.nd, g.nd.sublist (List.Sublist.map _ List.filter_sublist), fun a ha b hb z => ?_⟩
    subst z
    have := hasK_iff.mpr hb
    rw [has_filter (f := fun j => !hasK j (pK ps)), hasK_iff.mpr ha] at this
    cases this
  · unfold orP
    rw [List.length_append, List.length_map]
    have := List.length_filter_le (fun q : Key × Val => !hasK q.1 (pK ps)) qs
    omega
  · unfold orP at hp
    rcases List.mem_append.mp hp with hp | hp
    · obtain ⟨q, hq, rfl⟩ := List.mem_map.mp hp
      have gq := h.ok q hq
      refine ⟨gq.1, ?_⟩
      show VOk ((lookP q.1 qs).getD q.2) ∧ vdepth ((lookP q.1 qs).getD q.2) ≤ 3 ∧ vparts ((lookP q.1 qs).getD q.2) ≤ 100
      cases e : lookP q.1 qs with
      | none => exact gq.2
      | some v => exact (g.ok _ (look_mem e)).2
    · exact g.ok p (List.mem_filter.mp hp).1
/-! ### models as data -/
theorem atI_last {α : Type} {xs : List α} {x : α} : atI (xs ++ [x]) (-1) = some x := by
  have e : ixN (xs ++ [x]).length (-1) = some xs.length := by
    unfold ixN
    rw [if_neg (by decide), List.length_append]
    show (if _ then _ else _) = _
    rw [if_pos (by show -((xs.length + 1 : Nat) : Int) ≤ -1; omega)]
    exact congrArg some (by show (((xs.length + 1 : Nat) : Int) + -1).toNat = _; omega)
  unfold atI
  rw [e]
  show (xs ++ [x])[xs.length]? = some x
  rw [List.getElem?_append_right (Nat.le_refl _)]
  simp
theorem vw_vT {S : Sto} {C : Addr} {v : Val} : vw S (vT C v) = vT C v := by cases v <;> rfl
theorem vw_mT {S : Sto} {v : Val} : vw S (mT v) = mT v := by cases v <;> rfl
/-! ### two cells beside the source -/
section
variable {S : Sto} {a p q : Addr} {c x y d : Tr}
end
/-- leaves -/
def leafV : Val → Prop
  | .lst _ => False
  | .tup _ => False
  | .tab _ _ => False
  | _ => True
def IsLeaf (y : Tr) : Prop := ∃ v : Val, y = mT v ∧ leafV v ∧ VOk v
theorem IsTxt.leaf {y : Tr} (h : IsTxt 300 y) : IsLeaf y := let ⟨z, e, h, l⟩ := h; ⟨.str z, e, trivial, h, l⟩
theorem IsNum.leaf {y : Tr} (h : IsNum y) : IsLeaf y := let ⟨n, e, h⟩ := h; ⟨.int n, e, trivial, h⟩
theorem room_src {ns : List Int} {at_ rest seed room long : Int} : roomOf (srcT ns at_ rest seed room long) = room := rfl
theorem src_ok {ns : List Int} {at_ rest seed room long : Int} (h0 : 0 ≤ at_) (h1 : 0 ≤ rest) : SrcOk (srcT ns at_ rest seed room long) := ⟨ns, at_, rest, seed, room, long, rfl, h0, h1⟩
/-- what a source is as a tree -/
theorem drw_src {c d : Tr} (h : Drw c d) : ∃ (ns : List Int) (at_ rest seed long : Int), d = srcT ns at_ rest seed (roomOf c) long ∧ 0 ≤ at_ ∧ 0 ≤ rest := by
  obtain ⟨⟨ns, at_, rest, seed, room, long, rfl, h0, h1⟩, e⟩ := h
  exact ⟨ns, at_, rest, seed, long, by rw [← e]; rfl, h0, h1⟩
end KQ
namespace KQ
open PySem PySem.Spec PyProof.Rows L2 TL KB
/-! ### what the laws compare: atoms, (word, items), ("table", pairs) -/
inductive Md where
  | non
  | bl (b : Bool)
  | int (n : Int)
  | str (z : Str)
  | row (t : Str) (xs : List Md)
  | tab (ks : List Key) (xs : List Md)
mutual
def DOk : Md → Prop
  | .row t xs => t ≠ "table" ∧ DOkL xs
  | .tab ks xs => ks.length = xs.length ∧ DOkL xs
  | _ => True
def DOkL : List Md → Prop
  | [] => True
  | x :: xs => DOk x ∧ DOkL xs
end
theorem DOkL.get : ∀ {xs : List Md} {i : Nat} {x : Md}, DOkL xs → xs[i]? = some x → DOk x
  | x :: xs, 0, _, h, e => by cases e; exact h.1
  | y :: xs, i + 1, x, h, e => by rw [List.getElem?_cons_succ] at e; exact DOkL.get h.2 e
/-! ### values as such things -/
end KQ
namespace KQ
open PySem PySem.Spec PyProof.Rows L2 TL KB
/-! ### sameness, in order (o) or not -/
theorem bool_iff {a b : Bool} (h : a = true ↔ b = true) : a = b := by cases a <;> cases b <;> simp_all
/-- the word for a value's kind -/
def kindS : Val → Str
  | .non => "null"
  | .bl true => "true"
  | .bl false => "false"
  | .int _ => "integer"
  | .str _ => "text"
  | .lst _ => "list"
  | .tup _ => "tuple"
  | .tab _ _ => "table"
/-! ### lists of values changed -/
theorem ShfL.get : ∀ {vs ws : List Val} {i : Nat} {v : Val}, ShfL vs ws → vs[i]? = some v → ∃ w, ws[i]? = some w ∧ Shf v w
  | [], _, i, v, _, h => by simp at h
  | x :: xs, _, 0, v, h, e => by obtain ⟨w, us, rfl, h1, h2⟩ := h; cases e; exact ⟨w, rfl, h1⟩
  | x :: xs, _, i + 1, v, h, e => by obtain ⟨w, us, rfl, h1, h2⟩ := h; rw [List.getElem?_cons_succ] at e ⊢; exact ShfL.get h2 e
theorem PsOk.cut {n : Nat} {ps : List (Key × Val)} (h : PsOk n ps) (i : Nat) : PsOk n (ps.take i) :=
  ⟨by unfold pK; rw [List.map_take]; exact h.nd.sublist (List.take_sublist _ _), Nat.le_trans (by rw [List.length_take]; omega) h.len, fun p hp => h.ok p (List.mem_of_mem_take hp)⟩
/-! ### lists of keys compared -/
def kPD : Key → PyData
  | .inl n => .int n
  | .inr z => .str z
theorem kPD_toDs : ∀ ks : List Key, toDs (ks.map kT) = some (ks.map kPD)
  | [] => rfl
  | k :: ks => by cases k <;> (rw [List.map_cons]; unfold toDs; rw [kPD_toDs ks]; rfl)
theorem kPD_eqv : ∀ ks js : List Key, PyData.eqvAll (ks.map kPD) (js.map kPD) = decide (ks = js)
  | [], [] => rfl
  | [], _ :: _ => by simp [PyData.eqvAll]
  | _ :: _, [] => by simp [PyData.eqvAll]
  | k :: ks, j :: js => by
    rw [List.map_cons, List.map_cons, PyData.eqvAll, kPD_eqv ks js]
    have e : PyData.eqv (kPD k) (kPD j) = decide (k = j) := by
      cases k <;> cases j <;> simp [kPD, PyData.eqv]
      · rename_i a b; by_cases h : a = b <;> simp [h]
      · rename_i a b; by_cases h : a = b <;> simp [h]
    rw [e]
    by_cases h : k = j <;> by_cases g : ks = js <;> simp [h, g]
theorem kT_eqs {ks js : List Key} {n : Bool} {z : Tr} (h : ∀ k ∈ ks, KOk k) (g : ∀ k ∈ js, KOk k) : gEq n (.lst (ks.map kT)) (.lst (js.map kT)) z = (z = .bl (n ^^ decide (ks = js))) := by
  obtain ⟨ds, e1, h1, h2, h3⟩ := kT_toD h
  obtain ⟨es, e2, g1, g2, g3⟩ := kT_toD g
  rw [kPD_toDs] at e1 e2
  cases e1
  cases e2
  have s1 : SeqAt.shaped (.list (ks.map kPD)) = true := by
    show (PyData.canLayAll0 _ && decide (PyData.depthAll _ + 1 ≤ 64)) = true
    rw [h1, decide_eq_true (by omega)]; rfl
  have s2 : SeqAt.shaped (.list (js.map kPD)) = true := by
    show (PyData.canLayAll0 _ && decide (PyData.depthAll _ + 1 ≤ 64)) = true
    rw [g1, decide_eq_true (by omega)]; rfl
  have d1 : toD (.lst (ks.map kT)) = some (.list (ks.map kPD)) := by unfold toD; rw [kPD_toDs]; rfl
  have d2 : toD (.lst (js.map kT)) = some (.list (js.map kPD)) := by unfold toD; rw [kPD_toDs]; rfl
  refine propext ⟨fun q => ?_, fun q => .inr ⟨rfl, _, _, d1, d2, s1, s2, by rw [q]; show _ = Tr.bl (n ^^ PyData.eqvAll _ _); rw [kPD_eqv]⟩⟩
  rcases q with ⟨b, e, _⟩ | ⟨_, d, e, q1, q2, _, _, q⟩
  · cases e
  · rw [d1] at q1; cases q1
    rw [d2] at q2; cases q2
    rw [q]; show Tr.bl (n ^^ PyData.eqvAll _ _) = _; rw [kPD_eqv]
end KQ
namespace KQ
open PySem PySem.Spec PyProof.Rows L2 TL KB
def kindsL : List Str := ["null", "true", "false", "integer", "text", "list", "tuple", "table"]
/-! models of the laws k35-k58 -/
mutual
def nM : Val → Tr
  | .non => .tup [.str "null", .non]
  | .bl true => .tup [.str "true", .non]
  | .bl false => .tup [.str "false", .non]
  | .int n => .tup [.str "integer", .int n]
  | .str z => .tup [.str "text", .str z]
  | .lst vs => .tup [.str "list", .lst (nML vs)]
  | .tup vs => .tup [.str "tuple", .lst (nML vs)]
  | .tab ks vs => .tup [.str "table", .lst (nMP ks vs)]
def nML : List Val → List Tr
  | [] => []
  | v :: vs => nM v :: nML vs
def nMP : List Key → List Val → List Tr
  | k :: ks, v :: vs => .tup [kT k, nM v] :: nMP ks vs
  | _, _ => []
end
theorem nML_map : ∀ vs : List Val, nML vs = vs.map nM
  | [] => rfl
  | v :: vs => by rw [nML, nML_map vs]; rfl
structure Hide (p : Prop) : Prop where
  go : p
theorem okL_memN : ∀ {vs : List Val}, (∀ v ∈ vs, VOk v) → VOkL vs
  | [], _ => trivial
  | v :: vs, h => ⟨h v (by simp), okL_memN fun w hw => h w (List.mem_cons_of_mem _ hw)⟩
theorem vdL_le {n : Nat} : ∀ {vs : List Val}, (∀ v ∈ vs, vdepth v ≤ n) → vdepthL vs ≤ n
  | [], _ => Nat.zero_le _
  | v :: vs, h => by
    have h1 := h v (by simp)
    have h2 := vdL_le (n := n) (vs := vs) fun w hw => h w (List.mem_cons_of_mem _ hw)
    show max (vdepth v) (vdepthL vs) ≤ n
    omega
theorem str_in (z : Str) (ls : List Str) : inV (V.str z) (ls.map V.str) = decide (z ∈ ls) := by
  have := kV_in (.inr z) (ls.map Sum.inr)
  rw [List.map_map] at this
  refine (show inV (V.str z) (ls.map V.str) = _ from this).trans (bool_iff ?_)
  rw [hasK_iff, decide_eq_true_eq]
  simp
/-! membership in written lists of texts, for the walk "vl" -/
theorem fl_cons {z : Str} {xs : List Tr} : flatTs (.str z :: xs) = (flatTs xs).map (V.str z :: ·) := by
  rw [flatTs]; cases flatTs xs <;> rfl
theorem fl_nil : flatTs [] = some [] := rfl
theorem iv_cons {z y : Str} {vs : List V} : inV (V.str z) (V.str y :: vs) = (decide (z = y) || inV (V.str z) vs) := by
  have e : ∀ ls : List V, inV (V.str z) (V.str y :: ls) = (eqV (V.str y) (V.str z) || inV (V.str z) ls) := fun ls => by
    unfold inV; rw [List.any_cons]
  rw [e]
  have k := kV_in (.inr z) [.inr y]
  rw [List.map_cons, List.map_nil] at k
  have k2 := e []
  have n : inV (V.str z) [] = false := rfl
  rw [n, Bool.or_false] at k2
  rw [← k2]
  refine congrArg (· || _) ((show inV (V.str z) [V.str y] = _ from k).trans ?_)
  unfold hasK
  rw [List.any_cons, List.any_nil, Bool.or_false]
  refine bool_iff ?_
  rw [decide_eq_true_eq, decide_eq_true_eq]
  exact ⟨fun h => (Sum.inr.inj h).symm, fun h => by rw [h]⟩
theorem iv_nil {v : V} : inV v [] = false := rfl
/-- what a model holds beside its kind -/
def payT : Val → Tr
  | .non => .non
  | .bl _ => .non
  | .int n => .int n
  | .str z => .str z
  | .lst vs => .lst (vs.map nM)
  | .tup vs => .lst (vs.map nM)
  | .tab ks vs => .lst (nMP ks vs)
theorem nM_eq (v : Val) : nM v = .tup [.str (kindS v), payT v] := by
  cases v with
  | bl b => cases b <;> rfl
  | lst vs => simp only [nM, nML_map]; rfl
  | tup vs => simp only [nM, nML_map]; rfl
  | _ => rfl
theorem vw_nM {S : Sto} {v : Val} : vw S (nM v) = .tup [.str (kindS v), payT v] := by rw [nM_eq]; rfl
theorem vw_payT {S : Sto} {v : Val} : vw S (payT v) = payT v := by cases v <;> rfl
/-- the place of a key -/
def kIx (k : Key) (ks : List Key) : Nat := ks.findIdx fun j => decide (j = k)
/-! ### conditions -/
inductive CT where
  | kind | equals | size | has | item | before | first | every | some | both | either | inv
inductive Cnd where
  | kind (z : Str)
  | equals (k : Key)
  | size (n : Int)
  | has (k : Key)
  | item (k : Key) (l : Str)
  | before (k j : Key)
  | first (l : Str)
  | every (l : Str)
  | some (l : Str)
  | both (a b : Cnd)
  | either (a b : Cnd)
  | inv (a : Cnd)
def Cnd.tag : Cnd → CT
  | .kind _ => .kind
  | .equals _ => .equals
  | .size _ => .size
  | .has _ => .has
  | .item _ _ => .item
  | .before _ _ => .before
  | .first _ => .first
  | .every _ => .every
  | .some _ => .some
  | .both _ _ => .both
  | .either _ _ => .either
  | .inv _ => .inv
/-- the classes of the conditions; those that a law's text lacks are none -/
structure CA where
  adr : CT → Option Addr
  seen : Addr
def CA.of (a : CA) (τ : CT) : Addr := (a.adr τ).getD 0
def cT (a : CA) : Cnd → Tr
  | .kind z => .ins (a.of .kind) ["name"] [.str z]
  | .equals k => .ins (a.of .equals) ["atom"] [kT k]
  | .size n => .ins (a.of .size) ["count"] [.int n]
  | .has k => .ins (a.of .has) ["key"] [kT k]
  | .item k l => .ins (a.of .item) ["key", "label"] [kT k, .str l]
  | .before k j => .ins (a.of .before) ["first", "second"] [kT k, kT j]
  | .first l => .ins (a.of .first) ["label"] [.str l]
  | .every l => .ins (a.of .every) ["label"] [.str l]
  | .some l => .ins (a.of .some) ["label"] [.str l]
  | .both c d => .ins (a.of .both) ["left", "right"] [cT a c, cT a d]
  | .either c d => .ins (a.of .either) ["left", "right"] [cT a c, cT a d]
  | .inv c => .ins (a.of .inv) ["inner"] [cT a c]
def LOk (l : Str) : Prop := Pr l ∧ l.length ≤ 300
def COk (a : CA) : Cnd → Prop
  | .kind z => (∃ C, a.adr .kind = Option.some C) ∧ z ∈ kindsL
  | .equals k => (∃ C, a.adr .equals = Option.some C) ∧ KOk k
  | .size n => (∃ C, a.adr .size = Option.some C) ∧ 0 ≤ n ∧ n ≤ 4
  | .has k => (∃ C, a.adr .has = Option.some C) ∧ KOk k
  | .item k l => (∃ C, a.adr .item = Option.some C) ∧ KOk k ∧ LOk l
  | .before k j => (∃ C, a.adr .before = Option.some C) ∧ KOk k ∧ KOk j
  | .first l => (∃ C, a.adr .first = Option.some C) ∧ LOk l
  | .every l => (∃ C, a.adr .every = Option.some C) ∧ LOk l
  | .some l => (∃ C, a.adr .some = Option.some C) ∧ LOk l
  | .both c d => (∃ C, a.adr .both = Option.some C) ∧ COk a c ∧ COk a d
  | .either c d => (∃ C, a.adr .either = Option.some C) ∧ COk a c ∧ COk a d
  | .inv c => (∃ C, a.adr .inv = Option.some C) ∧ COk a c
theorem COk.at {a : CA} {c : Cnd} (h : COk a c) : ∃ C, a.adr c.tag = Option.some C := by
  cases c <;> exact h.1
/-- the methods of the condition classes, by their tags -/
def vm (a : CA) (sp : CT → TSp) : Addr → TSp → Prop := fun C t => ∃ τ, a.adr τ = Option.some C ∧ t = sp τ
/-! what a condition sees of a value v whose items have the labels ls -/
def isBox : Val → Bool
  | .lst _ => true
  | .tup _ => true
  | .tab _ _ => true
  | _ => false
def vitems : Val → List Val
  | .lst vs => vs
  | .tup vs => vs
  | .tab _ vs => vs
  | _ => []
def atomT : Val → Tr
  | .non => .non
  | .bl b => .bl b
  | .int n => .int n
  | .str z => .str z
  | _ => .non
def keysT : Val → Tr
  | .tab ks _ => .lst (ks.map kT)
  | _ => .non
def labsT (v : Val) (ls : List Str) : Tr := if isBox v = true then .lst (ls.map .str) else .non
def seenT (a : CA) (v : Val) (ls : List Str) : Tr := .ins a.seen ["shape", "atom", "key_rows", "labels"] [.str (kindS v), atomT v, keysT v, labsT v ls]
theorem vw_seenT {S : Sto} {a : CA} {v : Val} {ls : List Str} : vw S (seenT a v ls) = .ins a.seen ["shape", "atom", "key_rows", "labels"] [.str (kindS v), atomT v, keysT v, labsT v ls] := rfl
def holds : Cnd → Val → List Str → Bool
  | .kind z, v, _ => decide (kindS v = z)
  | .equals k, v, _ => match v, k with
    | .int n, .inl m => decide (n = m)
    | .str z, .inr y => decide (z = y)
    | _, _ => false
  | .size n, v, ls => isBox v && decide ((ls.length : Int) = n)
  | .has k, v, _ => match v with
    | .tab ks _ => hasK k ks
    | _ => false
  | .item k l, v, ls => match v with
    | .tab ks _ => hasK k ks && decide (ls[kIx k ks]? = Option.some l)
    | _ => false
  | .before k j, v, _ => match v with
    | .tab ks _ => hasK k ks && hasK j ks && decide (kIx k ks < kIx j ks)
    | _ => false
  | .first l, v, ls => match v with
    | .lst _ => decide (ls.take 1 = [l])
    | .tup _ => decide (ls.take 1 = [l])
    | _ => false
  | .every l, v, ls => isBox v && ls.all fun x => decide (x = l)
  | .some l, v, ls => isBox v && decide (l ∈ ls)
  | .both c d, v, ls => holds c v ls && holds d v ls
  | .either c d, v, ls => holds c v ls || holds d v ls
  | .inv c, v, ls => !holds c v ls
/-- the first rule that holds -/
def ruleOf : List (Str × Cnd) → Val → List Str → Str
  | [], _, _ => "other"
  | (z, c) :: rs, v, ls => if holds c v ls = true then z else ruleOf rs v ls
mutual
def labV (rs : List (Str × Cnd)) : Val → Str
  | .lst vs => ruleOf rs (.lst vs) (labsV rs vs)
  | .tup vs => ruleOf rs (.tup vs) (labsV rs vs)
  | .tab ks vs => ruleOf rs (.tab ks vs) (labsV rs vs)
  | .non => ruleOf rs .non []
  | .bl b => ruleOf rs (.bl b) []
  | .int n => ruleOf rs (.int n) []
  | .str z => ruleOf rs (.str z) []
def labsV (rs : List (Str × Cnd)) : List Val → List Str
  | [] => []
  | v :: vs => labV rs v :: labsV rs vs
end
/-- whether a condition holds for a value, by the labels -/
def fitsV (rs : List (Str × Cnd)) (c : Cnd) (v : Val) : Bool := holds c v ((vitems v).map (labV rs))
/-! what a condition mentions -/
def leavesC : Cnd → List Cnd
  | .both a b => leavesC a ++ leavesC b
  | .either a b => leavesC a ++ leavesC b
  | .inv a => leavesC a
  | c => [c]
def ownK : Cnd → List Key
  | .has k => [k]
  | .item k _ => [k]
  | .before k j => [k, j]
  | _ => []
/-! the labels as an object -/
def namesL (rs : List (Str × Cnd)) : List Str := rs.map (·.1) ++ ([("other" : Str)] : List Str)
def labT (C : Addr) (a : CA) (rs : List (Str × Cnd)) : Tr := .ins C ["names", "rule_rows"] [.tup ((namesL rs).map .str), .lst (rs.map fun r => .tup [.str r.1, cT a r.2])]
theorem vw_labT {S : Sto} {C : Addr} {a : CA} {rs : List (Str × Cnd)} : vw S (labT C a rs) = .ins C ["names", "rule_rows"] [.tup ((namesL rs).map .str), .lst (rs.map fun r => .tup [.str r.1, cT a r.2])] := rfl
/-! ### more for conditions -/
/-! ### digits of keys -/
def keyS : Key → Str
  | .inl n => Str.ofString (toString n)
  | .inr z => z
/-! ### guards -/
def isInl : Key → Bool
  | .inl _ => true
  | .inr _ => false
def isNonV : Val → Bool
  | .non => true
  | _ => false
theorem keyS_ok {k : Key} (h : KOk k) : KOk (.inr (keyS k)) := by
  cases k with
  | inl n => exact ⟨pr_int n, Nat.le_trans (len_int (k := 30) (by decide) h) (by decide)⟩
  | inr z => exact h
/-! ### conditions that are drawn -/
def CndOk (PK : Key → Prop) (PL : Str → Prop) : Cnd → Prop
  | .kind z => z ∈ kindsL
  | .equals k => KOk k
  | .size n => 0 ≤ n ∧ n ≤ 4
  | .has k => PK k
  | .item k l => PK k ∧ PL l
  | .before k j => PK k ∧ PK j
  | .first l => PL l
  | .every l => PL l
  | .some l => PL l
  | .both c d => CndOk PK PL c ∧ CndOk PK PL d
  | .either c d => CndOk PK PL c ∧ CndOk PK PL d
  | .inv c => CndOk PK PL c
/-! lists of lists of truths -/
theorem CndOk.imp {PK PK2 : Key → Prop} {PL PL2 : Str → Prop} (hk : ∀ k, PK k → PK2 k) (hl : ∀ l, PL l → PL2 l) : ∀ {c : Cnd}, CndOk PK PL c → CndOk PK2 PL2 c
  | .kind _, h => h
  | .equals _, h => h
  | .size _, h => h
  | .has _, h => hk _ h
  | .item _ _, h => ⟨hk _ h.1, hl _ h.2⟩
  | .before _ _, h => ⟨hk _ h.1, hk _ h.2⟩
  | .first _, h => hl _ h
  | .every _, h => hl _ h
  | .some _, h => hl _ h
  | .both _ _, h => ⟨h.1.imp hk hl, h.2.imp hk hl⟩
  | .either _ _, h => ⟨h.1.imp hk hl, h.2.imp hk hl⟩
  | .inv c, h => CndOk.imp (c := c) hk hl h
theorem str_eqs {xs ys : List Str} {n : Bool} {z : Tr} (h : ∀ l ∈ xs, LOk l) (g : ∀ l ∈ ys, LOk l) : gEq n (.lst (xs.map .str)) (.lst (ys.map .str)) z = (z = .bl (n ^^ decide (xs = ys))) := by
  have e : ∀ l : List Str, l.map Tr.str = (l.map (Sum.inr : Str → Key)).map kT := fun l => by rw [List.map_map]; rfl
  rw [e, e, kT_eqs (fun k hk => by obtain ⟨l, hl, rfl⟩ := List.mem_map.mp hk; exact h l hl) (fun k hk => by obtain ⟨l, hl, rfl⟩ := List.mem_map.mp hk; exact g l hl)]
  have : (xs.map (Sum.inr : Str → Key) = ys.map Sum.inr) ↔ xs = ys := List.map_inj_right (fun a b h => Sum.inr.inj h)
  rw [decide_eq_decide.mpr this]
end KQ
namespace KQ
open PySem PySem.Spec PyProof.Rows L2 TL KB
/-! ### raw values -/
inductive RawV where
  | non
  | bl (b : Bool)
  | int (n : Int)
  | str (z : Str)
  | row (xs : List RawV)
  | tab (ns : List Str) (xs : List RawV)
mutual
def rT : RawV → Tr
  | .non => .non
  | .bl b => .bl b
  | .int n => .int n
  | .str z => .str z
  | .row xs => .tup [.str "row", .lst (rTL xs)]
  | .tab ns xs => .tup [.str "table", .lst (rTP ns xs)]
def rTL : List RawV → List Tr
  | [] => []
  | x :: xs => rT x :: rTL xs
def rTP : List Str → List RawV → List Tr
  | n :: ns, x :: xs => .tup [.str n, rT x] :: rTP ns xs
  | _, _ => []
end
theorem rTL_map : ∀ xs : List RawV, rTL xs = xs.map rT
  | [] => rfl
  | x :: xs => by rw [rTL, rTL_map xs]; rfl
theorem rTP_zip : ∀ (ns : List Str) (xs : List RawV), rTP ns xs = (ns.zip xs).map fun q => Tr.tup [.str q.1, rT q.2]
  | [], [] => by rw [rTP]; rfl; all_goals (intros; simp_all)
  | [], _ :: _ => by rw [rTP]; rfl; all_goals (intros; simp_all)
  | _ :: _, [] => by rw [rTP]; rfl; all_goals (intros; simp_all)
  | n :: ns, x :: xs => by rw [rTP, rTP_zip ns xs]; rfl
mutual
def rdepth : RawV → Nat
  | .row xs => 1 + rdepthL xs
  | .tab _ xs => 1 + rdepthL xs
  | .non => 0
  | .bl _ => 0
  | .int _ => 0
  | .str _ => 0
def rdepthL : List RawV → Nat
  | [] => 0
  | x :: xs => max (rdepth x) (rdepthL xs)
end
mutual
def rparts : RawV → Nat
  | .row xs => 1 + rpartsL xs
  | .tab _ xs => 1 + rpartsL xs
  | .non => 1
  | .bl _ => 1
  | .int _ => 1
  | .str _ => 1
def rpartsL : List RawV → Nat
  | [] => 0
  | x :: xs => rparts x + rpartsL xs
end
mutual
def ROk : RawV → Prop
  | .row xs => ROkL xs
  | .tab ns xs => ROkL xs ∧ ns.length = xs.length ∧ ∀ n ∈ ns, LOk n
  | .non => True
  | .bl _ => True
  | .int n => n.natAbs < 10 ^ 30
  | .str z => Pr z ∧ z.length ≤ 300
def ROkL : List RawV → Prop
  | [] => True
  | x :: xs => ROk x ∧ ROkL xs
end
/-! ### the reader -/
structure Ro where
  same : Str
  dig : Str
  lists : Str
  nulls : Str
/-- the key of a string -/
def bkey (o : Ro) (z : Str) : Key := if o.dig = "number" ∧ digK (TL.tl z) = true then .inl ((PySem.intText? z).getD 0) else .inr z
/-- the entries that are kept, with their keys -/
def bfin (o : Ro) (ps : List (Key × Val)) : Val := tabV ((ps.filter fun q => !isNonV q.2 || decide (o.nulls = "keep")).map fun q => (bkey o (keyS q.1), q.2))
mutual
def bldR (o : Ro) : RawV → List Key → Except (List Key) Val
  | .non, _ => .ok .non
  | .bl b, _ => .ok (.bl b)
  | .int n, _ => .ok (.int n)
  | .str z, _ => .ok (.str z)
  | .row xs, p => match bldL o xs 0 p with
    | .error e => .error e
    | .ok vs => .ok (if o.lists = "tuple" then .tup vs else .lst vs)
  | .tab ns xs, p => match bldT o ns xs p [] with
    | .error e => .error e
    | .ok ps => .ok (bfin o ps)
def bldL (o : Ro) : List RawV → Nat → List Key → Except (List Key) (List Val)
  | [], _, _ => .ok []
  | x :: xs, i, p => match bldR o x (p ++ [.inl i]) with
    | .error e => .error e
    | .ok v => match bldL o xs (i + 1) p with
      | .error e => .error e
      | .ok vs => .ok (v :: vs)
def bldT (o : Ro) : List Str → List RawV → List Key → List (Key × Val) → Except (List Key) (List (Key × Val))
  | n :: ns, x :: xs, p, acc =>
    if hasK (.inr n) (pK acc) = true ∧ o.same = "refuse" then .error (p ++ [.inr n])
    else match bldR o x (p ++ [.inr n]) with
      | .error e => .error e
      | .ok v => bldT o ns xs p (if hasK (.inr n) (pK acc) = false ∨ o.same = "last" then putP (.inr n) v acc else acc)
  | _, _, _, acc => .ok acc
end
/-! ### what is built -/
theorem bkey_ok {o : Ro} {z : Str} (h : LOk z) : KOk (bkey o z) := by
  unfold bkey
  split
  · rename_i hd
    obtain ⟨n, e, _, _, e4⟩ := digK_int hd.2
    rw [e]
    exact e4
  · exact h
theorem bkey_inj {o : Ro} {z y : Str} (h : bkey o z = bkey o y) : z = y := by
  unfold bkey at h
  split at h
  · rename_i h1
    obtain ⟨n, e1, e2, _⟩ := digK_int h1.2
    split at h
    · rename_i h2
      obtain ⟨m, f1, f2, _⟩ := digK_int h2.2
      rw [e1, f1] at h
      have : n = m := Sum.inl.inj h
      rw [← e2, ← f2, this]
    · cases h
  · split at h
    · cases h
    · exact Sum.inr.inj h
theorem putP_keys {k : Key} {v : Val} {ps : List (Key × Val)} : pK (putP k v ps) = kputN k (pK ps) := by
  unfold putP kputN
  split
  · unfold pK; rw [List.map_map]; rfl
  · unfold pK; rw [List.map_append]; rfl
structure AccOk (d m : Nat) (ps : List (Key × Val)) : Prop where
  nd : (pK ps).Nodup
  nm : ∀ q ∈ ps, ∃ z, q.1 = .inr z ∧ LOk z
  ok : ∀ q ∈ ps, VOk q.2 ∧ vdepth q.2 ≤ d
  m : vpartsL (pV ps) ≤ m
theorem parts_map {k : Key} {v : Val} : ∀ (ps : List (Key × Val)), (pK ps).Nodup → vpartsL (pV (ps.map fun p => (p.1, if p.1 = k then v else p.2))) ≤ vpartsL (pV ps) + vparts v
  | [], _ => Nat.zero_le _
  | q :: ps, nd => by
    have nd' := List.nodup_cons.mp (show (q.1 :: pK ps).Nodup from nd)
    show vparts (if q.1 = k then v else q.2) + vpartsL (pV (ps.map _)) ≤ vparts q.2 + vpartsL (pV ps) + vparts v
    by_cases h : q.1 = k
    · have e : ps.map (fun p : Key × Val => (p.1, if p.1 = k then v else p.2)) = ps := by
        have : ∀ p ∈ ps, (fun p : Key × Val => (p.1, if p.1 = k then v else p.2)) p = id p := fun p hp => by
          have hn : p.1 ≠ k := fun z => nd'.1 (by rw [h, ← z]; exact List.mem_map.mpr ⟨p, hp, rfl⟩)
          show (p.1, if p.1 = k then v else p.2) = p
          rw [if_neg hn]
        rw [List.map_congr_left this, List.map_id]
      rw [e, if_pos h]; omega
    · have := parts_map (k := k) (v := v) ps nd'.2
      rw [if_neg h]; omega
theorem AccOk.put {d m : Nat} {ps : List (Key × Val)} {z : Str} {v : Val} (h : AccOk d m ps) (hz : LOk z) (hv : VOk v) {e n : Nat} (hd : d ≤ e) (hvd : vdepth v ≤ e) (hn : m + vparts v ≤ n) : AccOk e n (putP (.inr z) v ps) := by
  refine ⟨?_, fun q hq => ?_, fun q hq => ?_, ?_⟩
  · rw [putP_keys]
    unfold kputN
    split
    · exact h.nd
    · rename_i hh; exact nodup_put h.nd (by simpa using hh)
  · unfold putP at hq
    split at hq
    · obtain ⟨p, hp, rfl⟩ := List.mem_map.mp hq; exact h.nm p hp
    · rcases List.mem_append.mp hq with hq | hq
      · exact h.nm q hq
      · rw [List.mem_singleton.mp hq]; exact ⟨z, rfl, hz⟩
  · unfold putP at hq
    split at hq
    · obtain ⟨p, hp, rfl⟩ := List.mem_map.mp hq
      show VOk (if p.1 = _ then v else p.2) ∧ vdepth (if p.1 = _ then v else p.2) ≤ e
      split
      · exact ⟨hv, hvd⟩
      · exact ⟨(h.ok p hp).1, Nat.le_trans (h.ok p hp).2 hd⟩
    · rcases List.mem_append.mp hq with hq | hq
      · exact ⟨(h.ok q hq).1, Nat.le_trans (h.ok q hq).2 hd⟩
      · rw [List.mem_singleton.mp hq]; exact ⟨hv, hvd⟩
  · have := h.m
    unfold putP
    split
    · have := parts_map (k := .inr z) (v := v) ps h.nd; omega
    · have e : pV (ps ++ [((.inr z : Key), v)]) = pV ps ++ [v] := by unfold pV; rw [List.map_append]; rfl
      rw [e, vpL_snoc]; omega
theorem AccOk.up {d m e n : Nat} {ps : List (Key × Val)} (h : AccOk d m ps) (hd : d ≤ e) (hn : m ≤ n) : AccOk e n ps := ⟨h.nd, h.nm, fun q hq => ⟨(h.ok q hq).1, Nat.le_trans (h.ok q hq).2 hd⟩, Nat.le_trans h.m hn⟩
theorem AccOk.nil {d m : Nat} : AccOk d m [] := ⟨List.nodup_nil, (fun _ h => nomatch h), (fun _ h => nomatch h), Nat.zero_le _⟩
theorem parts_sub {f : Key × Val → Bool} {g : Key × Val → Key} : ∀ ps : List (Key × Val), vpartsL (pV ((ps.filter f).map fun q => (g q, q.2))) ≤ vpartsL (pV ps)
  | [] => Nat.le_refl _
  | q :: ps => by
    have ih := parts_sub (f := f) (g := g) ps
    show _ ≤ vparts q.2 + vpartsL (pV ps)
    rw [List.filter_cons]
    split
    · show vparts q.2 + vpartsL (pV ((ps.filter f).map _)) ≤ _; omega
    · omega
theorem bfin_ent {o : Ro} {d m : Nat} {ps : List (Key × Val)} (h : AccOk d m ps) :
    (pK ((ps.filter fun q => !isNonV q.2 || decide (o.nulls = "keep")).map fun q => (bkey o (keyS q.1), q.2))).Nodup ∧ VOk (bfin o ps) ∧ vdepth (bfin o ps) ≤ 1 + d ∧ vparts (bfin o ps) ≤ 1 + m := by
  have nd : (pK ((ps.filter fun q => !isNonV q.2 || decide (o.nulls = "keep")).map fun q => (bkey o (keyS q.1), q.2))).Nodup := by
    have e : pK ((ps.filter fun q => !isNonV q.2 || decide (o.nulls = "keep")).map fun q => (bkey o (keyS q.1), q.2)) = (pK (ps.filter fun q => !isNonV q.2 || decide (o.nulls = "keep"))).map fun k => bkey o (keyS k) := by
      unfold pK; rw [List.map_map, List.map_map]; rfl
    rw [e]
    have nd2 : (pK (ps.filter fun q => !isNonV q.2 || decide (o.nulls = "keep"))).Nodup := h.nd.sublist (List.Sublist.map _ List.filter_sublist)
    refine List.Pairwise.map _ (fun a b (x : (a ≠ b ∧ (∃ z, a = Sum.inr z)) ∧ ∃ z, b = Sum.inr z) y => ?_) (List.Pairwise.imp_of_mem (fun {a b} ha hb ne => ⟨⟨ne, ?_⟩, ?_⟩) nd2)
    · obtain ⟨⟨x1, z, rfl⟩, w, rfl⟩ := x
      exact x1 (by rw [show z = w from bkey_inj y])
    · obtain ⟨q, hq, e1⟩ := List.mem_map.mp ha
      obtain ⟨z, e, _⟩ := h.nm q (List.mem_filter.mp hq).1
      exact ⟨z, by rw [← e1]; exact e⟩
    · obtain ⟨q, hq, e1⟩ := List.mem_map.mp hb
      obtain ⟨z, e, _⟩ := h.nm q (List.mem_filter.mp hq).1
      exact ⟨z, by rw [← e1]; exact e⟩
  refine ⟨nd, ⟨okL_memN fun v hv => ?_, by unfold pK pV; simp only [List.length_map], fun k hk => ?_, nd⟩, Nat.add_le_add_left (vdL_le fun v hv => ?_) 1, Nat.add_le_add_left (Nat.le_trans (parts_sub ps) h.m) 1⟩
  · obtain ⟨q, hq, rfl⟩ := List.mem_map.mp hv
    obtain ⟨p, hp, rfl⟩ := List.mem_map.mp hq
    exact (h.ok p (List.mem_filter.mp hp).1).1
  · obtain ⟨q, hq, rfl⟩ := List.mem_map.mp hk
    obtain ⟨p, hp, rfl⟩ := List.mem_map.mp hq
    obtain ⟨z, e, hz⟩ := h.nm p (List.mem_filter.mp hp).1
    show KOk (bkey o (keyS p.1))
    rw [e]
    exact bkey_ok hz
  · obtain ⟨q, hq, rfl⟩ := List.mem_map.mp hv
    obtain ⟨p, hp, rfl⟩ := List.mem_map.mp hq
    exact (h.ok p (List.mem_filter.mp hp).1).2
mutual
theorem bldR_ok (o : Ro) : ∀ (w : RawV) (p : List Key) (v : Val), ROk w → bldR o w p = .ok v → VOk v ∧ vdepth v ≤ rdepth w ∧ vparts v ≤ rparts w
  | .non, p, v, h, e => by cases e; exact ⟨trivial, Nat.le_refl _, Nat.le_refl _⟩
  | .bl b, p, v, h, e => by cases e; exact ⟨trivial, Nat.le_refl _, Nat.le_refl _⟩
  | .int n, p, v, h, e => by cases e; exact ⟨h, Nat.le_refl _, Nat.le_refl _⟩
  | .str z, p, v, h, e => by cases e; exact ⟨h, Nat.le_refl _, Nat.le_refl _⟩
  | .row xs, p, v, h, e => by
    rw [bldR] at e
    split at e
    · cases e
    · rename_i vs hv
      obtain ⟨h1, h2, h3⟩ := bldL_ok o xs 0 p vs h hv
      cases e
      split
      · exact ⟨h1, Nat.add_le_add_left h2 1, Nat.add_le_add_left h3 1⟩
      · exact ⟨h1, Nat.add_le_add_left h2 1, Nat.add_le_add_left h3 1⟩
  | .tab ns xs, p, v, h, e => by
    rw [bldR] at e
    split at e
    · cases e
    · rename_i ps hps
      have a := bldT_ok o ns xs p [] ps (d := 0) (m := 0) h.2.2 h.1 .nil hps
      obtain ⟨_, h1, h2, h3⟩ := bfin_ent (o := o) a
      cases e
      refine ⟨h1, ?_, ?_⟩
      · show _ ≤ 1 + rdepthL xs
        have : max 0 (rdepthL xs) = rdepthL xs := Nat.max_eq_right (Nat.zero_le _)
        omega
      · show _ ≤ 1 + rpartsL xs
        omega
theorem bldL_ok (o : Ro) : ∀ (xs : List RawV) (i : Nat) (p : List Key) (vs : List Val), ROkL xs → bldL o xs i p = .ok vs → VOkL vs ∧ vdepthL vs ≤ rdepthL xs ∧ vpartsL vs ≤ rpartsL xs
  | [], i, p, vs, h, e => by cases e; exact ⟨trivial, Nat.le_refl _, Nat.le_refl _⟩
  | x :: xs, i, p, vs, h, e => by
    rw [bldL] at e
    split at e
    · cases e
    · rename_i v hv
      split at e
      · cases e
      · rename_i us hu
        obtain ⟨a1, a2, a3⟩ := bldR_ok o x _ v h.1 hv
        obtain ⟨b1, b2, b3⟩ := bldL_ok o xs _ p us h.2 hu
        cases e
        refine ⟨⟨a1, b1⟩, ?_, ?_⟩
        · show max (vdepth v) (vdepthL us) ≤ max (rdepth x) (rdepthL xs); omega
        · show vparts v + vpartsL us ≤ rparts x + rpartsL xs; omega
theorem bldT_ok (o : Ro) : ∀ (ns : List Str) (xs : List RawV) (p : List Key) (acc ps : List (Key × Val)) {d m : Nat}, (∀ n ∈ ns, LOk n) → ROkL xs → AccOk d m acc → bldT o ns xs p acc = .ok ps → AccOk (max d (rdepthL xs)) (m + rpartsL xs) ps
  | n :: ns, x :: xs, p, acc, ps, d, m, hn, h, a, e => by
    rw [bldT] at e
    split at e
    · cases e
    · split at e
      · cases e
      · rename_i v hv
        obtain ⟨a1, a2, a3⟩ := bldR_ok o x _ v h.1 hv
        have key : AccOk (max d (rdepth x)) (m + rparts x) (if hasK (.inr n) (pK acc) = false ∨ o.same = "last" then putP (.inr n) v acc else acc) := by
          split
          · exact a.put (hn n (by simp)) a1 (by omega) (by omega) (by omega)
          · exact a.up (by omega) (by omega)
        have := bldT_ok o ns xs p _ ps (fun z hz => hn z (List.mem_cons_of_mem _ hz)) h.2 key e
        refine this.up ?_ ?_
        · show max (max d (rdepth x)) (rdepthL xs) ≤ max d (max (rdepth x) (rdepthL xs)); omega
        · show m + rparts x + rpartsL xs ≤ m + (rparts x + rpartsL xs); omega
  | [], xs, p, acc, ps, d, m, hn, h, a, e => by
    rw [bldT] at e
    · cases e; exact a.up (by omega) (by omega)
    · intros; simp_all
  | n :: ns, [], p, acc, ps, d, m, hn, h, a, e => by
    rw [bldT] at e
    · cases e; exact a.up (by omega) (by omega)
    · intros; simp_all
end
theorem rpartsL_ge : ∀ xs : List RawV, xs.length ≤ rpartsL xs
  | [] => Nat.le_refl _
  | x :: xs => by
    have := rpartsL_ge xs
    have h : 1 ≤ rparts x := by cases x <;> simp only [rparts] <;> omega
    show xs.length + 1 ≤ rparts x + rpartsL xs; omega
theorem rparts_get : ∀ {xs : List RawV} {i : Nat} {w : RawV}, xs[i]? = some w → rparts w ≤ rpartsL xs
  | [], i, w, h => by cases h
  | x :: xs, 0, w, h => by cases h; show rparts x ≤ rparts x + _; omega
  | x :: xs, i + 1, w, h => by
    have := rparts_get (xs := xs) (i := i) (w := w) h
    show rparts w ≤ rparts x + rpartsL xs; omega
theorem ROkL.get : ∀ {xs : List RawV} {i : Nat} {w : RawV}, ROkL xs → xs[i]? = some w → ROk w
  | x :: xs, 0, w, h, e => by cases e; exact h.1
  | x :: xs, i + 1, w, h, e => ROkL.get (xs := xs) (i := i) h.2 e
theorem rpL_snoc : ∀ (xs : List RawV) (w : RawV), rpartsL (xs ++ [w]) = rpartsL xs + rparts w
  | [], w => by show rparts w + 0 = 0 + rparts w; omega
  | x :: xs, w => by
    have := rpL_snoc xs w
    show rparts x + rpartsL (xs ++ [w]) = rparts x + rpartsL xs + rparts w; omega
/-! ### flat raw values: leaves and rows of leaves -/
def leafR : RawV → Prop
  | .row _ => False
  | .tab _ _ => False
  | _ => True
theorem leaf_raw {y : Tr} (h : IsLeaf y) : ∃ w : RawV, y = rT w ∧ leafR w ∧ ROk w ∧ rdepth w = 0 ∧ rparts w = 1 := by
  obtain ⟨v, rfl, hl, ov⟩ := h
  cases v with
  | non => exact ⟨.non, rfl, trivial, trivial, rfl, rfl⟩
  | bl b => exact ⟨.bl b, rfl, trivial, trivial, rfl, rfl⟩
  | int n => exact ⟨.int n, rfl, trivial, ov, rfl, rfl⟩
  | str z => exact ⟨.str z, rfl, trivial, ov, rfl, rfl⟩
  | _ => exact hl.elim
theorem str_keyS {k : Key} (h : KOk k) : gStr4 [kT k] (.str (keyS k)) := by
  cases k with
  | inl n => exact ⟨log_int h, rfl⟩
  | inr z => rfl
theorem keyS_lok {k : Key} (h : KOk k) : LOk (keyS k) := keyS_ok h
/-! ### raw values as data -/
theorem rdL_snoc {x : RawV} : ∀ xs : List RawV, rdepthL (xs ++ [x]) = max (rdepthL xs) (rdepth x)
  | [] => by show max (rdepth x) 0 = max 0 (rdepth x); omega
  | y :: xs => by show max (rdepth y) (rdepthL (xs ++ [x])) = max (max (rdepth y) (rdepthL xs)) (rdepth x); rw [rdL_snoc xs]; omega
theorem ROkL.snoc {x : RawV} : ∀ {xs : List RawV}, ROkL xs → ROk x → ROkL (xs ++ [x])
  | [], _, h => ⟨h, trivial⟩
  | _ :: _, h, g => ⟨h.1, ROkL.snoc h.2 g⟩
theorem rTP_take {ns : List Str} {ws : List RawV} {n : Str} {w : RawV} (h : ns[ws.length]? = some n) : rTP (ns.take (ws.length + 1)) (ws ++ [w]) = rTP (ns.take ws.length) ws ++ [.tup [.str n, rT w]] := by
  have hi := (List.getElem?_eq_some_iff.mp h).1
  rw [List.take_add_one, h, rTP_zip, rTP_zip, List.zip_append (by rw [List.length_take]; omega), List.map_append]; rfl
/-! ### == of deeper data (the room of a level suffices for 200) -/
theorem vw_rT {S : Sto} {w : RawV} : vw S (rT w) = rT w := by cases w <;> rfl
/-! ### the path of a refusal -/
end KQ
namespace KQ
open PySem PySem.Spec PyProof.Rows L2 TL KB
/-! ### the writer -/
structure Wo where
  keys : Str
  tups : Str
  nulls : Str
  dbl : Str
  order : Str
  longs : Str
structure WoOk (w : Wo) : Prop where
  keys : w.keys ∈ (["text", "skip", "refuse"] : List Str)
  tups : w.tups ∈ (["list", "refuse"] : List Str)
  nulls : w.nulls ∈ (["keep", "skip"] : List Str)
  dbl : w.dbl ∈ (["keep", "refuse"] : List Str)
  order : w.order ∈ (["keep", "rising"] : List Str)
  longs : w.longs ∈ (["keep", "text", "refuse"] : List Str)
def intS (n : Int) : Str := Str.ofString (toString n)
def longI (n : Int) : Bool := decide ((15 : Int) < ((intS (n.natAbs : Int)).length : Int))
abbrev WErr := Str × List Key
/-- an integer, written -/
def wI (o : Wo) (i : Int) (p : List Key) : Except WErr RawV :=
  if longI i = true ∧ ¬ o.longs = "keep" then (if o.longs = "refuse" then .error ("long", p) else .ok (.str (intS i))) else .ok (.int i)
/-- items, one after another -/
def wL (f : Val → List Key → Except WErr RawV) : List Val → Nat → List Key → Except WErr (List RawV)
  | [], _, _ => .ok []
  | v :: vs, i, p => match f v (p ++ [.inl i]) with
    | .error e => .error e
    | .ok w => match wL f vs (i + 1) p with
      | .error e => .error e
      | .ok ws => .ok (w :: ws)
/-- the entries that are written -/
def wK (o : Wo) : List (Key × Val) → Except Key (List (Key × Val))
  | [] => .ok []
  | q :: qs => if isNonV q.2 = true ∧ o.nulls = "skip" then wK o qs
    else if isInl q.1 = true ∧ o.keys = "refuse" then .error q.1
    else match wK o qs with
      | .error k => .error k
      | .ok rs => .ok (if isInl q.1 = false ∨ o.keys = "text" then q :: rs else rs)
def wS (o : Wo) (qs : List (Key × Val)) : List (Key × Val) := if o.order = "rising" then isort (fun a b => ltS (keyS a.1) (keyS b.1)) qs else qs
def wP (f : Val → List Key → Except WErr RawV) (o : Wo) : List (Key × Val) → List Key → List Str → Except WErr (List (Str × RawV))
  | [], _, _ => .ok []
  | q :: qs, p, acc => if keyS q.1 ∈ acc ∧ o.dbl = "refuse" then .error ("double", p ++ [q.1])
    else match f q.2 (p ++ [q.1]) with
      | .error e => .error e
      | .ok w => match wP f o qs p (acc ++ [keyS q.1]) with
        | .error e => .error e
        | .ok ws => .ok ((keyS q.1, w) :: ws)
def wT (f : Val → List Key → Except WErr RawV) (o : Wo) (ps : List (Key × Val)) (p : List Key) : Except WErr RawV :=
  match wK o ps with
  | .error k => .error ("key", p ++ [k])
  | .ok qs => match wP f o (wS o qs) p [] with
    | .error e => .error e
    | .ok ws => .ok (.tab (ws.map (·.1)) (ws.map (·.2)))
def wR (f : Val → List Key → Except WErr RawV) (vs : List Val) (p : List Key) : Except WErr RawV :=
  match wL f vs 0 p with
  | .error e => .error e
  | .ok ws => .ok (.row ws)
/-- the raw value of a value, or the first refusal; the number is above the depth -/
def wrt (o : Wo) : Nat → Val → List Key → Except WErr RawV
  | 0, _, _ => .ok .non
  | n + 1, v, p => match v with
    | .non => .ok .non
    | .bl b => .ok (.bl b)
    | .int i => wI o i p
    | .str z => .ok (.str z)
    | .lst vs => wR (wrt o n) vs p
    | .tup vs => if o.tups = "refuse" then .error ("tuple", p) else wR (wrt o n) vs p
    | .tab ks vs => wT (wrt o n) o (ks.zip vs) p
/-! ### what is written -/
theorem wdL_mem {v : Val} : ∀ {vs : List Val}, v ∈ vs → vdepth v ≤ vdepthL vs ∧ vparts v ≤ vpartsL vs
  | u :: vs, h => by
    show vdepth v ≤ max (vdepth u) (vdepthL vs) ∧ vparts v ≤ vparts u + vpartsL vs
    rcases List.mem_cons.mp h with rfl | h
    · exact ⟨Nat.le_max_left .., Nat.le_add_right ..⟩
    · have := wdL_mem h; omega
def WGood (d m : Nat) (f : Val → List Key → Except WErr RawV) : Prop := ∀ v p w, VOk v → vdepth v < d → f v p = .ok w → ROk w ∧ rdepth w ≤ vdepth v ∧ rparts w ≤ vparts v
theorem intS_ok {n : Int} (h : n.natAbs < 10 ^ 30) : LOk (intS n) := keyS_ok (k := .inl n) h
theorem wI_ok {o : Wo} {i : Int} {p : List Key} {w : RawV} (h : i.natAbs < 10 ^ 30) (e : wI o i p = .ok w) : ROk w ∧ rdepth w ≤ 0 ∧ rparts w ≤ 1 := by
  unfold wI at e
  split at e
  · split at e
    · cases e
    · cases e; exact ⟨intS_ok h, Nat.le_refl _, Nat.le_refl _⟩
  · cases e; exact ⟨h, Nat.le_refl _, Nat.le_refl _⟩
theorem wL_ok {d m : Nat} {f : Val → List Key → Except WErr RawV} (g : WGood d m f) : ∀ (vs : List Val) (i : Nat) (p : List Key) (ws : List RawV), VOkL vs → vdepthL vs < d → wL f vs i p = .ok ws → ROkL ws ∧ rdepthL ws ≤ vdepthL vs ∧ rpartsL ws ≤ vpartsL vs ∧ ws.length = vs.length
  | [], i, p, ws, _, _, e => by cases e; exact ⟨trivial, Nat.le_refl _, Nat.le_refl _, rfl⟩
  | v :: vs, i, p, ws, h, hd, e => by
    have hd : max (vdepth v) (vdepthL vs) < d := hd
    rw [wL] at e
    split at e
    · cases e
    · rename_i w hw
      split at e
      · cases e
      · rename_i us hu
        cases e
        obtain ⟨a1, a2, a3⟩ := g v _ w h.1 (by omega) hw
        obtain ⟨b1, b2, b3, b4⟩ := wL_ok g vs _ p us h.2 (by omega) hu
        refine ⟨⟨a1, b1⟩, ?_, ?_, by rw [List.length_cons, List.length_cons, b4]⟩
        · show max (rdepth w) (rdepthL us) ≤ max (vdepth v) (vdepthL vs); omega
        · show rparts w + rpartsL us ≤ vparts v + vpartsL vs; omega
theorem wK_sub {o : Wo} : ∀ (ps qs : List (Key × Val)), wK o ps = .ok qs → qs.Sublist ps
  | [], qs, e => by cases e; exact List.Sublist.refl _
  | q :: ps, qs, e => by
    rw [wK] at e
    split at e
    · exact (wK_sub ps qs e).cons _
    · split at e
      · cases e
      · split at e
        · cases e
        · rename_i rs hr
          have := wK_sub ps rs hr
          cases e
          split
          · exact this.cons_cons _
          · exact this.cons _
theorem wS_perm {o : Wo} {qs : List (Key × Val)} : (wS o qs).Perm qs := by
  unfold wS
  split
  · exact isort_perm _
  · exact List.Perm.refl _
theorem wP_ok {d m : Nat} {f : Val → List Key → Except WErr RawV} {o : Wo} (g : WGood d m f) : ∀ (qs : List (Key × Val)) (p : List Key) (acc : List Str) (ws : List (Str × RawV)), (∀ q ∈ qs, KOk q.1 ∧ VOk q.2 ∧ vdepth q.2 < d) → wP f o qs p acc = .ok ws →
    ROkL (ws.map (·.2)) ∧ (∀ n ∈ ws.map (·.1), LOk n) ∧ rdepthL (ws.map (·.2)) ≤ vdepthL (qs.map (·.2)) ∧ rpartsL (ws.map (·.2)) ≤ vpartsL (qs.map (·.2)) ∧ ws.length = qs.length
  | [], p, acc, ws, _, e => by cases e; exact ⟨trivial, (fun _ h => nomatch h), Nat.le_refl _, Nat.le_refl _, rfl⟩
  | q :: qs, p, acc, ws, h, e => by
    rw [wP] at e
    split at e
    · cases e
    · split at e
      · cases e
      · rename_i w hw
        split at e
        · cases e
        · rename_i us hu
          cases e
          obtain ⟨k1, k2, k3⟩ := h q (List.mem_cons_self ..)
          obtain ⟨a1, a2, a3⟩ := g q.2 _ w k2 k3 hw
          obtain ⟨b1, b2, b3, b4, b5⟩ := wP_ok g qs p _ us (fun x hx => h x (List.mem_cons_of_mem _ hx)) hu
          refine ⟨⟨a1, b1⟩, fun n hn => ?_, ?_, ?_, by rw [List.length_cons, List.length_cons, b5]⟩
          · rw [List.map_cons] at hn
            rcases List.mem_cons.mp hn with rfl | hn
            · exact keyS_lok k1
            · exact b2 n hn
          · show max (rdepth w) (rdepthL (us.map (·.2))) ≤ max (vdepth q.2) (vdepthL (qs.map (·.2))); omega
          · show rparts w + rpartsL (us.map (·.2)) ≤ vparts q.2 + vpartsL (qs.map (·.2)); omega
theorem wpL_perm {vs ws : List Val} (h : vs.Perm ws) : vpartsL vs = vpartsL ws ∧ vdepthL vs = vdepthL ws := by
  induction h with
  | nil => exact ⟨rfl, rfl⟩
  | cons x _ ih => exact ⟨congrArg (vparts x + ·) ih.1, congrArg (max (vdepth x) ·) ih.2⟩
  | swap x y l => exact ⟨by show vparts y + (vparts x + vpartsL l) = vparts x + (vparts y + vpartsL l); omega, by show max (vdepth y) (max (vdepth x) (vdepthL l)) = max (vdepth x) (max (vdepth y) (vdepthL l)); omega⟩
  | trans _ _ a b => exact ⟨a.1.trans b.1, a.2.trans b.2⟩
theorem wpL_sub {vs ws : List Val} (h : vs.Sublist ws) : vpartsL vs ≤ vpartsL ws ∧ vdepthL vs ≤ vdepthL ws := by
  induction h with
  | slnil => exact ⟨Nat.le_refl _, Nat.le_refl _⟩
  | cons x _ ih => exact ⟨by show _ ≤ vparts x + _; omega, by show _ ≤ max (vdepth x) _; omega⟩
  | cons_cons x _ ih => exact ⟨Nat.add_le_add_left ih.1 _, by show max (vdepth x) _ ≤ max (vdepth x) _; omega⟩
/-- the entries of a table, kept and in order -/
theorem wKS {o : Wo} {ks : List Key} {vs : List Val} {qs : List (Key × Val)} (l : ks.length = vs.length) (ok : VOkL vs) (ok2 : ∀ k ∈ ks, KOk k) (e : wK o (ks.zip vs) = .ok qs) :
    (∀ q ∈ wS o qs, KOk q.1 ∧ VOk q.2 ∧ vdepth q.2 ≤ vdepthL vs ∧ vparts q.2 ≤ vpartsL vs) ∧ vdepthL ((wS o qs).map (·.2)) ≤ vdepthL vs ∧ vpartsL ((wS o qs).map (·.2)) ≤ vpartsL vs ∧ (wS o qs).length ≤ ks.length := by
  have s := wK_sub _ _ e
  have p := wS_perm (o := o) (qs := qs)
  have z : (ks.zip vs).map (·.2) = vs := List.map_snd_zip (by omega)
  have s2 := wpL_sub (s.map (·.2))
  have p2 := wpL_perm (p.map (·.2))
  rw [z] at s2
  refine ⟨fun q hq => ?_, by omega, by omega, by rw [p.length_eq]; have := s.length_le; rw [List.length_zip] at this; omega⟩
  have m := s.subset (p.mem_iff.mp hq)
  have m2 := List.of_mem_zip m
  obtain ⟨i, hi⟩ := List.mem_iff_getElem?.mp m2.2
  exact ⟨ok2 _ m2.1, VOkL.get ok hi, (wdL_mem m2.2).1, (wdL_mem m2.2).2⟩
theorem wrt_ok (o : Wo) : ∀ n, WGood n 0 (wrt o n)
  | 0 => fun v p w _ h _ => absurd h (Nat.not_lt_zero _)
  | n + 1 => fun v p w h hd e => by
    have row : ∀ vs, VOkL vs → 1 + vdepthL vs < n + 1 → wR (wrt o n) vs p = .ok w → ROk w ∧ rdepth w ≤ 1 + vdepthL vs ∧ rparts w ≤ 1 + vpartsL vs := fun vs ov dv e => by
      unfold wR at e
      split at e
      · cases e
      · rename_i ws hw
        obtain ⟨a1, a2, a3, _⟩ := wL_ok (wrt_ok o n) vs 0 p ws ov (by omega) hw
        cases e
        exact ⟨a1, Nat.add_le_add_left a2 1, Nat.add_le_add_left a3 1⟩
    cases v with
    | non => cases e; exact ⟨trivial, Nat.le_refl _, Nat.le_refl _⟩
    | bl b => cases e; exact ⟨trivial, Nat.le_refl _, Nat.le_refl _⟩
    | str z => cases e; exact ⟨h, Nat.le_refl _, Nat.le_refl _⟩
    | int i => exact wI_ok h e
    | lst vs => exact row vs h hd e
    | tup vs =>
      rw [wrt] at e
      try dsimp only at e
      split at e
      · cases e
      · exact row vs h hd e
    | tab ks vs =>
      have hd : 1 + vdepthL vs < n + 1 := hd
      rw [wrt] at e
      try dsimp only at e
      unfold wT at e
      split at e
      · cases e
      · rename_i qs hq
        obtain ⟨k1, k2, k3, k4⟩ := wKS (o := o) h.2.1 h.1 h.2.2.1 hq
        split at e
        · cases e
        · rename_i ws hw
          obtain ⟨a1, a2, a3, a4, a5⟩ := wP_ok (wrt_ok o n) _ p [] ws (fun q hq => ⟨(k1 q hq).1, (k1 q hq).2.1, by have := (k1 q hq).2.2.1; omega⟩) hw
          cases e
          exact ⟨⟨a1, by rw [List.length_map, List.length_map], a2⟩, Nat.add_le_add_left (Nat.le_trans a3 k2) 1, Nat.add_le_add_left (Nat.le_trans a4 k3) 1⟩
/-! ### refusals -/
/-! ### values without tables -/
end KQ
namespace KQ
open PySem PySem.Spec PyProof.Rows L2 TL KB
/-! ### mending what is refused -/
/-! ### how much can be refused -/
end KQ
namespace KQ
open PySem PySem.Spec PyProof.Rows L2 TL KB
/-! ### steps and programs -/
def ordK : Cnd → List Key
  | .before k j => [k, j]
  | _ => []
def askL : Cnd → List Str
  | .every l => [l]
  | .some l => [l]
  | _ => []
inductive Stp where
  | put (k : Key) (v : Val)
  | drop (k : Key)
  | carry
  | stop (z : Str) (c : Cnd)
def stpL (a : CA) (D : Addr) : Stp → List Tr
  | .put k v => [.str "put", kT k, vT D v]
  | .drop k => [.str "drop", kT k]
  | .carry => [.str "carry"]
  | .stop z c => [.str "stop", .str z, cT a c]
def stpT (a : CA) (D : Addr) (s : Stp) : Tr := .tup (stpL a D s)
def isCar : Stp → Bool
  | .carry => true
  | _ => false
def isEd : Stp → Bool
  | .put _ _ => true
  | .drop _ => true
  | _ => false
def edK : Stp → Key
  | .put k _ => k
  | .drop k => k
  | _ => .inl 0
def carN (ss : List Stp) : Nat := (ss.filter isCar).length
def progT (C L : Addr) (a : CA) (D : Addr) (rs : List (Str × Cnd)) (ss : List Stp) : Tr := .ins C ["carries", "labels", "steps"] [.int (carN ss : Nat), labT L a rs, .lst (ss.map (stpT a D))]
end KQ
namespace KQ
open PySem PySem.Spec PyProof.Rows L2 TL KB
/-! ### the laws' own programs: leaves and rows -/
inductive Rw where
  | carry
  | ed (b : Bool) (k : Key)
  | stop (cs : List Cnd)
def rwCar : Rw → Bool
  | .carry => true
  | _ => false
def rwEd : Rw → Bool
  | .ed _ _ => true
  | _ => false
def rwK : Rw → Key
  | .ed _ k => k
  | _ => .inl 0
def RwS : Rw → Stp → Prop
  | .carry, .carry => True
  | .ed true k, .put j v => j = k
  | .ed false k, .drop j => j = k
  | .stop cs, .stop _ c => leavesC c = cs
  | _, _ => False
/-- the steps that are made of the rows -/
inductive RwsS : List Rw → List Stp → Prop
  | nil : RwsS [] []
  | cons {w : Rw} {s : Stp} {ws : List Rw} {ss : List Stp} : RwS w s → RwsS ws ss → RwsS (w :: ws) (s :: ss)
theorem RwsS.len {ws : List Rw} {ss : List Stp} (h : RwsS ws ss) : ws.length = ss.length := by induction h <;> simp_all
theorem RwsS.snoc {ws : List Rw} {ss : List Stp} {w : Rw} {s : Stp} (h : RwsS ws ss) (g : RwS w s) : RwsS (ws ++ [w]) (ss ++ [s]) := by
  induction h with
  | nil => exact .cons g .nil
  | cons a _ ih => exact .cons a ih
theorem RwS.car {w : Rw} {s : Stp} (a : RwS w s) : rwCar w = isCar s := by
  cases w with
  | ed b k => cases b <;> cases s <;> first | exact a.elim | rfl
  | _ => cases s <;> first | exact a.elim | rfl
theorem RwS.ed {w : Rw} {s : Stp} (a : RwS w s) : rwEd w = isEd s ∧ (rwEd w = true → rwK w = edK s) := by
  cases w with
  | ed b k => cases b <;> cases s <;> first | exact a.elim | exact ⟨rfl, fun _ => (show _ = _ from a).symm⟩
  | _ => cases s <;> first | exact a.elim | exact ⟨rfl, fun h => nomatch h⟩
theorem RwsS.car : ∀ {ws : List Rw} {ss : List Stp}, RwsS ws ss → (ws.filter rwCar).length = carN ss
  | _, _, .nil => rfl
  | _, _, .cons (w := w) (s := s) a h => by
    have ih := h.car
    unfold carN at ih ⊢
    rw [List.filter_cons, List.filter_cons, a.car]
    cases isCar s
    · exact ih
    · exact congrArg (· + 1) ih
end KQ
namespace KQ
open PySem PySem.Spec PyProof.Rows L2 TL KB
/-! ### runs -/
inductive Out where
  | ans (z : Str)
  | failed
  | refused
  | endd
def outR : Out → Tr
  | .ans z => .tup [.str "answer", .str z]
  | .failed => .tup [.str "failed"]
  | .refused => .tup [.str "refused"]
  | .endd => .tup [.str "end"]
def edP : Stp → List (Key × Val) → List (Key × Val)
  | .put k x, ps => putP k x ps
  | .drop k, ps => takeP k ps
  | _, ps => ps
def editV (s : Stp) (ks : List Key) (vs : List Val) : Val := tabV (edP s (ks.zip vs))
/-- one step: none where it ends there with this outcome -/
def stepV (rs : List (Str × Cnd)) (cy : Nat → Val → Option Val) (s : Stp) (at_ : Nat) (v : Val) : Out ⊕ (Option Val) := match s with
  | .stop z c => if fitsV rs c v = true then .inl (.ans z) else .inr none
  | .carry => match cy at_ v with
    | none => .inl .refused
    | some w => .inr (some w)
  | .put k x => match v with
    | .tab ks vs => .inr (some (editV (.put k x) ks vs))
    | _ => .inl .failed
  | .drop k => match v with
    | .tab ks vs => .inr (some (editV (.drop k) ks vs))
    | _ => .inl .failed
def doneV (rs : List (Str × Cnd)) (cy : Nat → Val → Option Val) : List Stp → Nat → Val → List Val × Out
  | [], _, _ => ([], .endd)
  | s :: ss, i, v => match stepV rs cy s i v with
    | .inl o => ([], o)
    | .inr none => doneV rs cy ss i v
    | .inr (some w) => (w :: (doneV rs cy ss (if isCar s then i + 1 else i) w).1, (doneV rs cy ss (if isCar s then i + 1 else i) w).2)
structure VBd (d p : Nat) (v : Val) : Prop where
  ok : VOk v
  dep : vdepth v ≤ d
  par : vparts v ≤ p
theorem VBd.more {d p e q : Nat} {v : Val} (h : VBd d p v) (h1 : d ≤ e) (h2 : p ≤ q) : VBd e q v := ⟨h.ok, Nat.le_trans h.dep h1, Nat.le_trans h.par h2⟩
/-- an object of a run; the passages as trees -/
def runT (R C L : Addr) (a : CA) (D : Addr) (rs : List (Str × Cnd)) (ss : List Stp) (pas : List Tr) : Tr := .ins R ["program", "passages"] [progT C L a D rs ss, .lst pas]
theorem vw_runT {S : Sto} {R C L D : Addr} {a : CA} {rs : List (Str × Cnd)} {ss : List Stp} {pas : List Tr} : vw S (runT R C L a D rs ss pas) = .ins R ["program", "passages"] [progT C L a D rs ss, .lst pas] := rfl
theorem vw_progT {S : Sto} {C L D : Addr} {a : CA} {rs : List (Str × Cnd)} {ss : List Stp} : vw S (progT C L a D rs ss) = .ins C ["carries", "labels", "steps"] [.int (carN ss : Nat), labT L a rs, .lst (ss.map (stpT a D))] := rfl
/-- where a run stands: the values told so far lead to the whole -/
structure DnAt (rs : List (Str × Cnd)) (cy : Nat → Val → Option Val) (ss : List Stp) (v0 : Val) (i at_ : Nat) (acc : List Val) (v : Val) : Prop where
  eq : doneV rs cy ss 0 v0 = (acc ++ (doneV rs cy (ss.drop i) at_ v).1, (doneV rs cy (ss.drop i) at_ v).2)
  at_ : at_ = carN (ss.take i)
theorem DnAt.zero {rs : List (Str × Cnd)} {cy : Nat → Val → Option Val} {ss : List Stp} {v : Val} : DnAt rs cy ss v 0 0 [] v := ⟨rfl, rfl⟩
section
variable {rs : List (Str × Cnd)} {cy : Nat → Val → Option Val} {ss : List Stp} {v0 v w : Val} {i at_ : Nat} {acc : List Val} {s : Stp} {o : Out}
theorem DnAt.last (h : DnAt rs cy ss v0 i at_ acc v) (hs : ss[i]? = some s) (e : stepV rs cy s at_ v = .inl o) : doneV rs cy ss 0 v0 = (acc, o) := by
  obtain ⟨hi, es⟩ := List.getElem?_eq_some_iff.mp hs
  rw [h.eq, List.drop_eq_getElem_cons hi, es, doneV, e, List.append_nil]
theorem DnAt.stay (h : DnAt rs cy ss v0 i at_ acc v) (hs : ss[i]? = some s) (c : isCar s = false) (e : stepV rs cy s at_ v = .inr none) : DnAt rs cy ss v0 (i + 1) at_ acc v := by
  obtain ⟨hi, es⟩ := List.getElem?_eq_some_iff.mp hs
  refine ⟨?_, ?_⟩
  · rw [h.eq, List.drop_eq_getElem_cons hi, es, doneV, e]
  · rw [h.at_, List.take_add_one, hs]; unfold carN; rw [List.filter_append]; simp [c]
theorem DnAt.go (h : DnAt rs cy ss v0 i at_ acc v) (hs : ss[i]? = some s) (e : stepV rs cy s at_ v = .inr (some w)) : DnAt rs cy ss v0 (i + 1) (if isCar s then at_ + 1 else at_) (acc ++ [w]) w := by
  obtain ⟨hi, es⟩ := List.getElem?_eq_some_iff.mp hs
  refine ⟨?_, ?_⟩
  · rw [h.eq, List.drop_eq_getElem_cons hi, es, doneV, e]; simp
  · rw [h.at_, List.take_add_one, hs]; unfold carN; rw [List.filter_append]
    cases c : isCar s <;> simp [c]
theorem DnAt.fin (h : DnAt rs cy ss v0 ss.length at_ acc v) : doneV rs cy ss 0 v0 = (acc, .endd) := by
  rw [h.eq, List.drop_length, doneV, List.append_nil]
end
/-! ### the laws' models as data -/
theorem vw_outR {S : Sto} {o : Out} : vw S (outR o) = outR o := by cases o <;> rfl
/-! ### conditions that keep to two keys in order and two labels that are counted -/
def Nar (ks : List Key) (ls : List Str) (c : Cnd) : Prop := ∀ d ∈ leavesC c, (∀ k ∈ ordK d, k ∈ ks.take 2) ∧ ∀ l ∈ askL d, l ∈ ls.drop (ls.length - 2)
theorem Nar.both {ks : List Key} {ls : List Str} {c d : Cnd} (h : Nar ks ls c) (g : Nar ks ls d) : Nar ks ls (.both c d) := fun e he => by
  rcases List.mem_append.mp (show e ∈ leavesC c ++ leavesC d from he) with he | he
  · exact h e he
  · exact g e he
theorem Nar.either {ks : List Key} {ls : List Str} {c d : Cnd} (h : Nar ks ls c) (g : Nar ks ls d) : Nar ks ls (.either c d) := fun e he => by
  rcases List.mem_append.mp (show e ∈ leavesC c ++ leavesC d from he) with he | he
  · exact h e he
  · exact g e he
theorem Nar.inv {ks : List Key} {ls : List Str} {c : Cnd} (h : Nar ks ls c) : Nar ks ls (.inv c) := h
theorem CndOk.keys {PK : Key → Prop} {PL : Str → Prop} : ∀ {c : Cnd}, CndOk PK PL c → ∀ k ∈ (leavesC c).flatMap ownK, PK k
  | .kind _, h, l, m => by cases m
  | .equals _, h, l, m => by cases m
  | .size _, h, l, m => by cases m
  | .has z, h, l, m => by rw [List.mem_singleton.mp (show l ∈ [z] from m)]; exact h
  | .item z _, h, l, m => by rw [List.mem_singleton.mp (show l ∈ [z] from m)]; exact h.1
  | .before z y, h, l, m => by
    rcases List.mem_cons.mp (show l ∈ [z, y] from m) with rfl | m
    · exact h.1
    · rw [List.mem_singleton.mp m]; exact h.2
  | .first z, h, l, m => by cases m
  | .every z, h, l, m => by cases m
  | .some z, h, l, m => by cases m
  | .both c d, h, l, m => by
    rw [show leavesC (.both c d) = leavesC c ++ leavesC d from rfl, List.flatMap_append] at m
    rcases List.mem_append.mp m with m | m
    · exact h.1.keys l m
    · exact h.2.keys l m
  | .either c d, h, l, m => by
    rw [show leavesC (.either c d) = leavesC c ++ leavesC d from rfl, List.flatMap_append] at m
    rcases List.mem_append.mp m with m | m
    · exact h.1.keys l m
    · exact h.2.keys l m
  | .inv c, h, l, m => CndOk.keys (c := c) h l m
end KQ
namespace KQ
open PySem PySem.Spec PyProof.Rows L2 TL KB
/-! ### passages -/
def psT (C : Addr) (w : Wo) (r : Ro) : Tr := .ins C ["number_keys", "tuples", "nulls", "double_keys", "order", "long_numbers", "same_keys", "digit_keys", "lists", "null_items"] [.str w.keys, .str w.tups, .str w.nulls, .str w.dbl, .str w.order, .str w.longs, .str r.same, .str r.dig, .str r.lists, .str r.nulls]
theorem vw_psT {S : Sto} {C : Addr} {w : Wo} {r : Ro} : vw S (psT C w r) = psT C w r := rfl
/-- what comes back, or who refuses, why, where -/
def crry (w : Wo) (r : Ro) (v : Val) : Except (Str × Str × List Key) Val := match wrt w 62 v [] with
  | .error e => .error ("writer", e.1, e.2)
  | .ok x => match bldR r x [] with
    | .error e => .error ("reader", "double", e)
    | .ok u => .ok u
theorem crry_ok {w : Wo} {r : Ro} {v u : Val} (ov : VOk v) (dv : vdepth v ≤ 60) (h : crry w r v = .ok u) : VOk u ∧ vdepth u ≤ vdepth v ∧ vparts u ≤ vparts v := by
  unfold crry at h
  split at h
  · cases h
  · rename_i x e
    split at h
    · cases h
    · rename_i u' e2
      cases h
      obtain ⟨a, b, c⟩ := wrt_ok w 62 v [] x ov (by omega) e
      obtain ⟨a2, b2, c2⟩ := bldR_ok r x [] u a e2
      exact ⟨a2, by omega, by omega⟩
/-! ### the passages of a run -/
abbrev Psg := Option (Wo × Ro)
def psO (C : Addr) : Psg → Tr
  | none => .non
  | some q => psT C q.1 q.2
theorem vw_psO {S : Sto} {C : Addr} {q : Psg} : vw S (psO C q) = psO C q := by cases q <;> rfl
/-! ### a run of two parts -/
theorem carN_cons (s : Stp) (ss : List Stp) : carN (s :: ss) = (if isCar s then 1 else 0) + carN ss := by
  unfold carN
  cases h : isCar s
  · rw [List.filter_cons_of_neg (by simp [h])]; simp
  · rw [List.filter_cons_of_pos h, List.length_cons]; simp; omega
theorem step_none {rs : List (Str × Cnd)} {cy : Nat → Val → Option Val} {s : Stp} {i : Nat} {v : Val} (h : stepV rs cy s i v = .inr none) : isCar s = false := by
  cases s with
  | carry =>
    unfold stepV at h
    dsimp only at h
    split at h <;> cases h
  | _ => rfl
theorem doneV_cons {rs : List (Str × Cnd)} {cy : Nat → Val → Option Val} (s : Stp) (ss : List Stp) (i : Nat) (v : Val) : doneV rs cy (s :: ss) i v = (match stepV rs cy s i v with
    | .inl o => ([], o)
    | .inr none => doneV rs cy ss i v
    | .inr (some w) => (w :: (doneV rs cy ss (if isCar s then i + 1 else i) w).1, (doneV rs cy ss (if isCar s then i + 1 else i) w).2)) := by
  rw [doneV]
  all_goals (cases stepV rs cy s i v with
  | inl o => rfl
  | inr w => cases w <;> rfl)
theorem done_end {rs : List (Str × Cnd)} {cy : Nat → Val → Option Val} {ys : List Stp} : ∀ (ss : List Stp) (i : Nat) (v : Val), (doneV rs cy ss i v).2 = .endd →
    doneV rs cy (ss ++ ys) i v = ((doneV rs cy ss i v).1 ++ (doneV rs cy ys (i + carN ss) ((doneV rs cy ss i v).1.getLastD v)).1, (doneV rs cy ys (i + carN ss) ((doneV rs cy ss i v).1.getLastD v)).2)
  | [], i, v, _ => by simp [doneV, carN]
  | s :: ss, i, v, h => by
    rw [doneV_cons] at h
    rw [List.cons_append, doneV_cons s (ss ++ ys), doneV_cons s ss]
    cases q : stepV rs cy s i v with
    | inl o => rw [q] at h; dsimp only at h; subst h; exact absurd q (by
        cases s with
        | carry => unfold stepV; dsimp only; split <;> (intro q; cases q)
        | stop z c => unfold stepV; dsimp only; split <;> (intro q; cases q)
        | put k x => cases v <;> (unfold stepV; dsimp only; intro q; cases q)
        | drop k => cases v <;> (unfold stepV; dsimp only; intro q; cases q))
    | inr w =>
      rw [q] at h
      cases w with
      | none =>
        dsimp only at h ⊢
        have c := step_none q
        rw [done_end ss i v h, carN_cons, c, if_neg (by decide), Nat.zero_add]
      | some w =>
        dsimp only at h ⊢
        rw [done_end ss _ w h, List.cons_append, List.getLastD_cons, carN_cons]
        have e : ∀ a : Nat, (if isCar s = true then i + 1 else i) + a = i + ((if isCar s = true then 1 else 0) + a) := fun a => by split <;> omega
        rw [e]
theorem done_stop {rs : List (Str × Cnd)} {cy : Nat → Val → Option Val} {ys : List Stp} : ∀ (ss : List Stp) (i : Nat) (v : Val), (doneV rs cy ss i v).2 ≠ .endd → doneV rs cy (ss ++ ys) i v = doneV rs cy ss i v
  | [], i, v, h => absurd rfl h
  | s :: ss, i, v, h => by
    rw [doneV_cons] at h
    rw [List.cons_append, doneV_cons s (ss ++ ys), doneV_cons s ss]
    cases q : stepV rs cy s i v with
    | inl o => rfl
    | inr w =>
      rw [q] at h
      cases w with
      | none => dsimp only at h ⊢; exact done_stop ss i v h
      | some w => dsimp only at h ⊢; rw [done_stop ss _ w h]
end KQ
namespace KQ
open PySem PySem.Spec PyProof.Rows L2 TL KB
/-! ### keywords bound, quickly -/
/-! ### == of models -/
/-! ### texts of keys -/
theorem numL_head : ∀ n : Nat, 0 < n → (numL n).head? ≠ some 48 := by
  intro n
  induction n using Nat.strongRecOn with
  | _ n ih =>
    intro h
    by_cases h10 : n < 10
    · rw [numL_lt h10]; simp; omega
    · have := ih (n / 10) (by omega) (by omega)
      rw [numL_step (by omega)]
      cases e : numL (n / 10) with
      | nil => exact absurd e (numL_ne _)
      | cons a r => rw [e] at this; simpa using this
theorem numL_zero : numL 0 = [48] := by rw [numL_lt (by decide)]
theorem digs_dg {l : List Nat} (h : NumText.AllDigits l) : l.all isDg = true := List.all_eq_true.mpr fun c hc => by
  have := h c hc
  unfold isDg
  simpa using this
theorem body_num {n : Nat} : body (numL n) = numL n := by
  unfold body
  rw [if_neg]
  intro h
  cases e : numL n with
  | nil => exact absurd e (numL_ne _)
  | cons a r =>
    rw [e] at h
    have := numL_digits n a (by rw [e]; simp)
    cases h
    omega
theorem dig_intS {n : Int} (h : n.natAbs < 10 ^ 30) : digK (tl (intS n)) = true := by
  unfold intS
  rw [tl_int]
  unfold intL
  have l30 := numL_len (n := n.natAbs) (k := 30) (by decide) h
  have ag := digs_dg (numL_digits n.natAbs)
  have ne := numL_ne n.natAbs
  split
  · rename_i hn
    have hh := numL_head n.natAbs (by omega)
    have eb : body (45 :: numL n.natAbs) = numL n.natAbs := by unfold body; rw [if_pos (by simp)]; rfl
    unfold digK
    rw [eb, decide_eq_true ne, decide_eq_true l30, ag, decide_eq_true hh]
    simp
  · unfold digK
    rw [body_num, decide_eq_true ne, decide_eq_true l30, ag]
    by_cases h0 : n.natAbs = 0
    · rw [h0, numL_zero]; rfl
    · rw [decide_eq_true (numL_head n.natAbs (by omega))]; simp
theorem intS_back {n : Int} (h : n.natAbs < 10 ^ 30) : PySem.intText? (intS n) = some n := by
  obtain ⟨m, e, e2, _, _⟩ := digK_int (dig_intS h)
  have : m = n := by
    have e3 : tl (Str.ofString (toString m)) = tl (Str.ofString (toString n)) := congrArg tl e2
    rw [tl_int, tl_int] at e3
    have v : ∀ k : Int, k < 0 → (intL k).head? = some 45 := fun k hk => by unfold intL; rw [if_pos hk]; rfl
    have u : ∀ k : Int, ¬ k < 0 → (intL k).head? ≠ some 45 := fun k hk h => by
      unfold intL at h; rw [if_neg hk] at h
      cases e : numL k.natAbs with
      | nil => exact absurd e (numL_ne _)
      | cons a r =>
        rw [e] at h
        have := numL_digits k.natAbs a (by rw [e]; simp)
        cases h
        omega
    have ab : ∀ a b : Nat, numL a = numL b → a = b := fun a b q => by rw [← numL_val a, ← numL_val b, q]
    by_cases hm : m < 0 <;> by_cases hn : n < 0
    · unfold intL at e3; rw [if_pos hm, if_pos hn] at e3
      have := ab _ _ (List.cons.inj e3).2
      omega
    · exact absurd (by rw [← e3]; exact v m hm) (u n hn)
    · exact absurd (by rw [e3]; exact v n hn) (u m hm)
    · unfold intL at e3; rw [if_neg hm, if_neg hn] at e3
      have := ab _ _ e3
      omega
  rw [e, this]
/-! ### entries put one after another -/
theorem putP_new {k : Key} {v : Val} {ps : List (Key × Val)} (h : k ∉ pK ps) : putP k v ps = ps ++ [(k, v)] := by
  unfold putP
  rw [if_neg (fun q => h (hasK_iff.mp q))]
/-! ### what comes back the same -/
section
variable {o : Wo} {r : Ro} {L : List Str}
end
/-! ### what is refused -/
section
variable {o : Wo} {r : Ro} {g : Str}
/-! ### a reader that refuses doubles -/
end
/-! ### k58's passages -/
end KQ
namespace KQ
open PySem PySem.Spec PyProof.Rows L2 TL KB
/-! ### texts as lists of codes -/
def mkS (l : List Nat) : Str := ⟨l.toArray⟩
theorem tl_mkS (l : List Nat) : tl (mkS l) = l := by simp [tl, mkS]
theorem mkS_tl (z : Str) : mkS (tl z) = z := ext_tl (tl_mkS _)
theorem mkS_inj {a b : List Nat} (h : mkS a = mkS b) : a = b := by rw [← tl_mkS a, ← tl_mkS b, h]
theorem mkS_len (l : List Nat) : (mkS l).length = l.length := by rw [len_tl, tl_mkS]
/-! ### the reader of texts, on what is left of the text -/
inductive PErr where
  | nott (r : List Nat)
  | deep (r : List Nat)
abbrev PR (α : Type) := Except PErr (α × List Nat)
def blk : List Nat → List Nat
  | [] => []
  | c :: r => if c = 32 then blk r else c :: r
def pEx (c : Nat) : List Nat → Except PErr (List Nat)
  | [] => .error (.nott [])
  | x :: r => if x = c then .ok r else .error (.nott (x :: r))
def pEs : List Nat → List Nat → Except PErr (List Nat)
  | [], r => .ok r
  | c :: cs, r => match pEx c r with
    | .error e => .error e
    | .ok r' => pEs cs r'
def wrapR (v : RawV) : Except PErr (List Nat) → PR RawV
  | .error e => .error e
  | .ok r => .ok (v, r)
def pWd (r : List Nat) : PR RawV :=
  if r.head? = some 110 then wrapR .non (pEs [110, 117, 108, 108] r)
  else if r.head? = some 116 then wrapR (.bl true) (pEs [116, 114, 117, 101] r)
  else wrapR (.bl false) (pEs [102, 97, 108, 115, 101] r)
/-- so many digits at most -/
def pDg : Nat → List Nat → List Nat × List Nat
  | 0, r => ([], r)
  | _ + 1, [] => ([], [])
  | n + 1, c :: r => if isDg c = true then (c :: (pDg n r).1, (pDg n r).2) else ([], c :: r)
/-- digits behind a sign -/
def pNd (neg : Bool) : List Nat → PR RawV
  | [] => .error (.nott [])
  | c :: r => if isDg c = false then .error (.nott (c :: r))
    else if c = 48 then .ok (.int 0, r)
    else .ok (.int (if neg = true then -((NumText.digitsVal (c :: (pDg 29 r).1) : Nat) : Int) else ((NumText.digitsVal (c :: (pDg 29 r).1) : Nat) : Int)), (pDg 29 r).2)
def pNm (r : List Nat) : PR RawV :=
  if r.head? = some 45 then (if r.tail.head? = some 48 then .error (.nott r.tail) else pNd true r.tail) else pNd false r
/-- a string, behind its first quote -/
def pSt : List Nat → Except PErr (List Nat × List Nat)
  | [] => .error (.nott [])
  | c :: r => if c = 34 then .ok ([], r)
    else if c = 92 then (match r with
      | [] => .error (.nott [])
      | d :: r2 => if d = 34 ∨ d = 92 then (match pSt r2 with
          | .error e => .error e
          | .ok q => .ok (d :: q.1, q.2))
        else .error (.nott (d :: r2)))
    else (match pSt r with
      | .error e => .error e
      | .ok q => .ok (c :: q.1, q.2))
def pStr (r : List Nat) : Except PErr (List Nat × List Nat) := match pEx 34 r with
  | .error e => .error e
  | .ok r' => pSt r'
/-- members behind the first one -/
def pMore {α : Type} (f : List Nat → PR α) (cl : Nat) : Nat → List α → List Nat → PR (List α)
  | 0, _, r => .error (.nott r)
  | n + 1, acc, r => if r.head? = some 44 then (match f r.tail with
      | .error e => .error e
      | .ok q => pMore f cl n (acc ++ [q.1]) (blk q.2))
    else (match pEx cl r with
      | .error e => .error e
      | .ok r' => .ok (acc, r'))
def pMem {α : Type} (f : List Nat → PR α) (cl : Nat) (r : List Nat) : PR (List α) :=
  if (blk r).head? = some cl then .ok ([], (blk r).tail) else (match f (blk r) with
    | .error e => .error e
    | .ok q => pMore f cl (q.2.length + 1) [q.1] (blk q.2))
def pPair (f : List Nat → PR RawV) (r : List Nat) : PR (Str × RawV) := match pStr (blk r) with
  | .error e => .error e
  | .ok q => match pEx 58 (blk q.2) with
    | .error e => .error e
    | .ok r' => match f r' with
      | .error e => .error e
      | .ok v => .ok ((mkS q.1, v.1), v.2)
/-- a value without items, behind blanks -/
def pLeaf (r : List Nat) : PR RawV :=
  if r.head? = some 34 then (match pStr r with
    | .error e => .error e
    | .ok q => .ok (.str (mkS q.1), q.2))
  else if r.head? = some 110 ∨ r.head? = some 116 ∨ r.head? = some 102 then pWd r
  else pNm r
/-- a value; the number tells how many brackets may still be opened -/
def pVal : Nat → List Nat → PR RawV
  | 0, r => if (blk r).head? = some 91 ∨ (blk r).head? = some 123 then .error (.deep (blk r)) else pLeaf (blk r)
  | d + 1, r => if (blk r).head? = some 91 then (match pMem (pVal d) 93 (blk r).tail with
      | .error e => .error e
      | .ok q => .ok (.row q.1, q.2))
    else if (blk r).head? = some 123 then (match pMem (pPair (pVal d)) 125 (blk r).tail with
      | .error e => .error e
      | .ok q => .ok (.tab (q.1.map (·.1)) (q.1.map (·.2)), q.2))
    else pLeaf (blk r)
def pText (l : List Nat) : Except PErr RawV := match pVal 60 l with
  | .error e => .error e
  | .ok q => if (blk q.2).isEmpty = true then .ok q.1 else .error (.nott (blk q.2))
/-! ### what is left is an end of the text -/
def PErr.rest : PErr → List Nat
  | .nott r => r
  | .deep r => r
def Suf {α : Type} (x : PR α) (r : List Nat) : Prop := (∀ q, x = .ok q → q.2 <:+ r) ∧ ∀ e, x = .error e → e.rest <:+ r
def Suf0 (x : Except PErr (List Nat)) (r : List Nat) : Prop := (∀ q, x = .ok q → q <:+ r) ∧ ∀ e, x = .error e → e.rest <:+ r
theorem Suf.up {α : Type} {x : PR α} {r l : List Nat} (h : Suf x r) (s : r <:+ l) : Suf x l := ⟨fun q e => (h.1 q e).trans s, fun q e => (h.2 q e).trans s⟩
theorem Suf0.up {x : Except PErr (List Nat)} {r l : List Nat} (h : Suf0 x r) (s : r <:+ l) : Suf0 x l := ⟨fun q e => (h.1 q e).trans s, fun q e => (h.2 q e).trans s⟩
theorem blk_suf : ∀ r : List Nat, blk r <:+ r
  | [] => List.suffix_refl _
  | c :: r => by
    rw [blk]
    split
    · exact (blk_suf r).trans (List.suffix_cons c r)
    · exact List.suffix_refl _
theorem tail_suf (r : List Nat) : r.tail <:+ r := List.tail_suffix r
theorem pEx_suf (c : Nat) (r : List Nat) : Suf0 (pEx c r) r := by
  cases r with
  | nil => exact ⟨fun q e => (by cases e), fun q e => by cases e; exact List.suffix_refl _⟩
  | cons x r =>
    rw [pEx]
    split
    · exact ⟨fun q e => by cases e; exact List.suffix_cons x r, fun q e => by cases e⟩
    · exact ⟨fun q e => (by cases e), fun q e => by cases e; exact List.suffix_refl _⟩
theorem pEs_suf : ∀ (cs r : List Nat), Suf0 (pEs cs r) r
  | [], r => ⟨fun q e => by cases e; exact List.suffix_refl _, fun q e => by cases e⟩
  | c :: cs, r => by
    have h := pEx_suf c r
    rw [pEs]
    cases hx : pEx c r with
    | error e => exact ⟨fun q e => (by cases e), fun q e' => by cases e'; exact h.2 _ hx⟩
    | ok r' => exact (pEs_suf cs r').up (h.1 _ hx)
theorem pDg_suf : ∀ (n : Nat) (r : List Nat), (pDg n r).2 <:+ r
  | 0, r => List.suffix_refl _
  | _ + 1, [] => List.suffix_refl _
  | n + 1, c :: r => by
    rw [pDg]
    split
    · exact (pDg_suf n r).trans (List.suffix_cons c r)
    · exact List.suffix_refl _
theorem pNd_suf (neg : Bool) (r : List Nat) : Suf (pNd neg r) r := by
  cases r with
  | nil => exact ⟨fun q e => (by cases e), fun q e => by cases e; exact List.suffix_refl _⟩
  | cons c r =>
    rw [pNd]
    split
    · exact ⟨fun q e => (by cases e), fun q e => by cases e; exact List.suffix_refl _⟩
    · split
      · exact ⟨fun q e => by cases e; exact List.suffix_cons c r, fun q e => by cases e⟩
      · exact ⟨fun q e => by cases e; exact (pDg_suf 29 r).trans (List.suffix_cons c r), fun q e => by cases e⟩
theorem pNm_suf (r : List Nat) : Suf (pNm r) r := by
  unfold pNm
  split
  · split
    · exact ⟨fun q e => (by cases e), fun q e => by cases e; exact tail_suf r⟩
    · exact (pNd_suf true r.tail).up (tail_suf r)
  · exact pNd_suf false r
theorem wrap_suf {x : Except PErr (List Nat)} {v : RawV} {r : List Nat} (h : Suf0 x r) : Suf (wrapR v x) r := by
  cases x with
  | error e => exact ⟨fun q e => (by cases e), fun q e' => by cases e'; exact h.2 _ rfl⟩
  | ok r' => exact ⟨fun q e => by cases e; exact h.1 _ rfl, fun q e => by cases e⟩
theorem pWd_suf (r : List Nat) : Suf (pWd r) r := by
  unfold pWd
  split
  · exact wrap_suf (pEs_suf _ r)
  · split
    · exact wrap_suf (pEs_suf _ r)
    · exact wrap_suf (pEs_suf _ r)
theorem pSt_suf : ∀ (n : Nat) (r : List Nat), r.length ≤ n → Suf (pSt r) r
  | n, [], _ => ⟨fun q e => (by cases e), fun q e => by cases e; exact List.suffix_refl _⟩
  | 0, c :: r, h => by cases h
  | n + 1, c :: r, h => by
    unfold pSt
    have h' : r.length ≤ n := by simpa using h
    split
    · exact ⟨fun q e => by cases e; exact List.suffix_cons c r, fun q e => by cases e⟩
    · split
      · cases r with
        | nil => exact ⟨fun q e => (by cases e), fun q e => by cases e; exact List.nil_suffix⟩
        | cons d r2 =>
          dsimp only
          split
          · have h2 := pSt_suf n r2 (by simp only [List.length_cons] at h'; omega)
            have s2 : r2 <:+ c :: d :: r2 := (List.suffix_cons d r2).trans (List.suffix_cons c _)
            cases hx : pSt r2 with
            | error e => exact ⟨fun q e => (by cases e), fun q e' => by cases e'; exact (h2.2 _ hx).trans s2⟩
            | ok q => exact ⟨fun q e => by cases e; exact (h2.1 _ hx).trans s2, fun q e => by cases e⟩
          · exact ⟨fun q e => (by cases e), fun q e => by cases e; exact List.suffix_cons c _⟩
      · have h2 := pSt_suf n r h'
        cases hx : pSt r with
        | error e => exact ⟨fun q e => (by cases e), fun q e' => by cases e'; exact (h2.2 _ hx).trans (List.suffix_cons c r)⟩
        | ok q => exact ⟨fun q e => by cases e; exact (h2.1 _ hx).trans (List.suffix_cons c r), fun q e => by cases e⟩
theorem pStr_suf (r : List Nat) : Suf (pStr r) r := by
  unfold pStr
  have h := pEx_suf 34 r
  cases hx : pEx 34 r with
  | error e => exact ⟨fun q e => (by cases e), fun q e' => by cases e'; exact h.2 _ hx⟩
  | ok r' => exact (pSt_suf _ r' (Nat.le_refl _)).up (h.1 _ hx)
theorem pLeaf_suf (r : List Nat) : Suf (pLeaf r) r := by
  unfold pLeaf
  split
  · have h := pStr_suf r
    cases hx : pStr r with
    | error e => exact ⟨fun q e => (by cases e), fun q e' => by cases e'; exact h.2 _ hx⟩
    | ok q => exact ⟨fun q e => by cases e; exact h.1 _ hx, fun q e => by cases e⟩
  · split
    · exact pWd_suf r
    · exact pNm_suf r
section
variable {α : Type} {f : List Nat → PR α} {cl : Nat}
theorem pMore_suf (hf : ∀ r, Suf (f r) r) : ∀ (n : Nat) (acc : List α) (r : List Nat), Suf (pMore f cl n acc r) r
  | 0, acc, r => ⟨fun q e => (by cases e), fun q e => by cases e; exact List.suffix_refl _⟩
  | n + 1, acc, r => by
    rw [pMore]
    split
    · have h := hf r.tail
      cases hx : f r.tail with
      | error e => exact ⟨fun q e => (by cases e), fun q e' => by cases e'; exact (h.2 _ hx).trans (tail_suf r)⟩
      | ok q => exact (pMore_suf hf n _ (blk q.2)).up ((blk_suf q.2).trans ((h.1 _ hx).trans (tail_suf r)))
    · have h := pEx_suf cl r
      cases hx : pEx cl r with
      | error e => exact ⟨fun q e => (by cases e), fun q e' => by cases e'; exact h.2 _ hx⟩
      | ok r' => exact ⟨fun q e => by cases e; exact h.1 _ hx, fun q e => by cases e⟩
theorem pMem_suf (hf : ∀ r, Suf (f r) r) (r : List Nat) : Suf (pMem f cl r) r := by
  unfold pMem
  split
  · exact ⟨fun q e => by cases e; exact (tail_suf _).trans (blk_suf r), fun q e => by cases e⟩
  · have h := (hf (blk r)).up (blk_suf r)
    cases hx : f (blk r) with
    | error e => exact ⟨fun q e => (by cases e), fun q e' => by cases e'; exact h.2 _ hx⟩
    | ok q => exact (pMore_suf hf _ _ (blk q.2)).up ((blk_suf q.2).trans (h.1 _ hx))
end
theorem pPair_suf {f : List Nat → PR RawV} (hf : ∀ r, Suf (f r) r) (r : List Nat) : Suf (pPair f r) r := by
  unfold pPair
  have h := (pStr_suf (blk r)).up (blk_suf r)
  cases hx : pStr (blk r) with
  | error e => exact ⟨fun q e => (by cases e), fun q e' => by cases e'; exact h.2 _ hx⟩
  | ok q =>
    dsimp only
    have h2 := ((pEx_suf 58 (blk q.2)).up (blk_suf q.2)).up (h.1 _ hx)
    cases hy : pEx 58 (blk q.2) with
    | error e => exact ⟨fun q e => (by cases e), fun q e' => by cases e'; exact h2.2 _ hy⟩
    | ok r' =>
      dsimp only
      have h3 := (hf r').up (h2.1 _ hy)
      cases hz : f r' with
      | error e => exact ⟨fun q e => (by cases e), fun q e' => by cases e'; exact h3.2 _ hz⟩
      | ok v => exact ⟨fun q e => by cases e; exact h3.1 _ hz, fun q e => by cases e⟩
theorem pVal_suf : ∀ (d : Nat) (r : List Nat), Suf (pVal d r) r
  | 0, r => by
    rw [pVal]
    split
    · exact ⟨fun q e => (by cases e), fun q e => by cases e; exact blk_suf r⟩
    · exact (pLeaf_suf _).up (blk_suf r)
  | d + 1, r => by
    have ih := pVal_suf d
    have st : (blk r).tail <:+ r := (tail_suf _).trans (blk_suf r)
    rw [pVal]
    split
    · have h := (pMem_suf (cl := 93) ih (blk r).tail).up st
      cases hx : pMem (pVal d) 93 (blk r).tail with
      | error e => exact ⟨fun q e => (by cases e), fun q e' => by cases e'; exact h.2 _ hx⟩
      | ok q => exact ⟨fun q e => by cases e; exact h.1 _ hx, fun q e => by cases e⟩
    · split
      · have h := (pMem_suf (cl := 125) (pPair_suf ih) (blk r).tail).up st
        cases hx : pMem (pPair (pVal d)) 125 (blk r).tail with
        | error e => exact ⟨fun q e => (by cases e), fun q e' => by cases e'; exact h.2 _ hx⟩
        | ok q => exact ⟨fun q e => by cases e; exact h.1 _ hx, fun q e => by cases e⟩
      · exact (pLeaf_suf _).up (blk_suf r)
/-! ### the scanner as a tree -/
def scT (C : Addr) (z : Str) (r : List Nat) (d : Nat) : Tr := .ins C ["text", "at", "depth"] [.str z, .int ((z.length - r.length : Nat) : Int), .int (d : Int)]
theorem suf_drop {z : Str} {r : List Nat} (h : r <:+ tl z) : (tl z).drop (z.length - r.length) = r := by
  obtain ⟨t, e⟩ := h
  rw [len_tl, ← e, List.length_append, Nat.add_sub_cancel]
  exact List.drop_left
theorem suf_len {z : Str} {r : List Nat} (h : r <:+ tl z) : r.length ≤ z.length := by rw [len_tl]; exact h.length_le
structure ZS (z : Str) (r : List Nat) : Prop where
  suf : r <:+ tl z
  pr : Pr z
  len : z.length ≤ 4000000
theorem ZS.le {z : Str} {r : List Nat} (h : ZS z r) : r.length ≤ z.length := suf_len h.suf
theorem ZS.up {z : Str} {r r' : List Nat} (h : ZS z r) (s : r' <:+ r) : ZS z r' := ⟨s.trans h.suf, h.pr, h.len⟩
def errC (N D : Addr) : PErr → Addr
  | .nott _ => N
  | .deep _ => D
def posT (z : Str) (e : PErr) : Tr := .int ((z.length - e.rest.length : Nat) : Int)
theorem szM {n : Nat} (h : n ≤ 4000000) : n ≤ sizeLine := Nat.le_trans h (by decide)
theorem szM' {n : Nat} (h : n ≤ 4000000) : n < sizeLine := Nat.lt_of_le_of_lt h (by decide)
theorem at_tail {z : Str} {c : Nat} {r : List Nat} (h : (c :: r).length ≤ z.length) : ((z.length - (c :: r).length : Nat) : Int) + 1 = ((z.length - r.length : Nat) : Int) := by
  simp only [List.length_cons] at h ⊢; omega
theorem blk_no {r : List Nat} (h : r.head? ≠ some 32) : blk r = r := by
  cases r with
  | nil => rfl
  | cons c r => rw [blk, if_neg (fun e => h (by rw [e]; rfl))]
theorem head_cons {r : List Nat} {k : Nat} (h : r.head? = some k) : ∃ t, r = k :: t := by
  cases r with
  | nil => cases h
  | cons c r => cases h; exact ⟨r, rfl⟩
theorem pEx_yes {k : Nat} {t : List Nat} : pEx k (k :: t) = .ok t := by rw [pEx, if_pos rfl]
theorem pEx_no {k : Nat} {r : List Nat} (h : r.head? ≠ some k) : pEx k r = .error (.nott r) := by
  cases r with
  | nil => rfl
  | cons c r => rw [pEx, if_neg (fun e => h (by rw [e]; rfl))]
theorem ZS.dig {z : Str} {r : List Nat} (h : ZS z r) : Txt.isdigit (mkS (r.take 1)) = (r.head?.map isDg).getD false := by
  rw [KB.isdigit_pr (fun c hc => by rw [tl_mkS] at hc; exact h.pr c (h.suf.subset (List.mem_of_mem_take hc))), tl_mkS]
  cases r with
  | nil => rfl
  | cons c r => simp
theorem ZS.at_ {z : Str} {c : Nat} {r : List Nat} (h : ZS z (c :: r)) : atI z.cps.toList ((z.length - (c :: r).length : Nat) : Int) = some c := by
  refine atI_nat ?_
  have := suf_drop h.suf
  have e : ((tl z).drop (z.length - (c :: r).length))[0]? = some c := by rw [this]; rfl
  rw [List.getElem?_drop, Nat.add_zero] at e
  exact e
theorem cut_mid {z : Str} {r r' : List Nat} (h : ZS z r) (s : r' <:+ r) : tl (cutS z (some ((z.length - r.length : Nat) : Int)) (some ((z.length - r'.length : Nat) : Int))) = r.take (r.length - r'.length) := by
  have l1 := h.le
  have l2 := s.length_le
  rw [KB.tl_cutS, HT.sIx_nat, HT.sIx_nat, Nat.min_eq_left (Nat.sub_le _ _), Nat.min_eq_left (Nat.sub_le _ _), suf_drop h.suf]
  congr 1
  omega
theorem all_dg {l : List Nat} (h : ∀ x ∈ l, isDg x = true) : NumText.AllDigits l := fun c hc => by
  have := h c hc
  unfold isDg at this
  simpa using this
theorem num_text {neg : Bool} {l : List Nat} {y : Str} (hd : ∀ x ∈ l, isDg x = true) (hne : l ≠ []) (hl : l.length ≤ 30) (e : tl y = if neg = true then 45 :: l else l) :
    PySem.intText? y = some (if neg = true then -((NumText.digitsVal l : Nat) : Int) else ((NumText.digitsVal l : Nat) : Int)) ∧ y.length ≤ 640 := by
  have ad := all_dg hd
  have ly := len_tl y
  cases neg with
  | true =>
    simp only [if_true] at e ⊢
    rw [e, List.length_cons] at ly
    exact ⟨intText_neg e ad hne (by omega), by omega⟩
  | false =>
    simp only [Bool.false_eq_true, if_false] at e ⊢
    rw [e] at ly
    have := intText_digits (x := y) (by rw [show y.cps.toList = l from e]; exact ad) (by rw [show y.cps.toList = l from e]; exact hne) (by omega)
    rw [show y.cps.toList = l from e] at this
    exact ⟨this, by omega⟩
theorem pDg_none {n : Nat} {r : List Nat} (h : n = 0 ∨ (r.head?.map isDg).getD false = false) : pDg n r = ([], r) := by
  cases n with
  | zero => rfl
  | succ n =>
    cases r with
    | nil => rfl
    | cons c r =>
      rcases h with h | h
      · cases h
      · rw [pDg, if_neg (by simpa using h)]
theorem q0 : mkS [] = Str.ofString "" := ext_tl (by rw [tl_mkS]; decide +kernel)
theorem q1 {c : Nat} {t : List Nat} : mkS (c :: t) ≠ Str.ofString "" := fun e => by rw [← q0] at e; cases mkS_inj e
theorem q34 : Str.ofString "\"" = mkS [34] := ext_tl (by rw [tl_mkS]; decide +kernel)
theorem join_sgn (acc : List Nat) : Txt.join (Str.ofString "") (acc.map fun c => (⟨#[c]⟩ : Str)) = mkS acc := by
  refine ext_tl ?_
  rw [KB.join0, tl_mkS, List.map_map]
  induction acc with
  | nil => rfl
  | cons c acc ih => rw [List.map_cons, List.flatten_cons, ih]; rfl
/-- the next sign is this one -/
theorem hd_eq {r : List Nat} {s : String} {k : Nat} (h : tl (Str.ofString s) = [k]) : mkS (r.take 1) = Str.ofString s ↔ r.head? = some k := by
  constructor
  · intro e
    have := congrArg tl e
    rw [tl_mkS, h] at this
    cases r with
    | nil => cases this
    | cons c r => simp at this; simp [this]
  · intro e
    refine ext_tl ?_
    rw [tl_mkS, h]
    cases r with
    | nil => cases e
    | cons c r => simp at e; simp [e]
theorem hd_k {r : List Nat} {k : Nat} : mkS (r.take 1) = mkS [k] ↔ r.head? = some k := by
  constructor
  · intro e
    have := mkS_inj e
    cases r with
    | nil => cases this
    | cons c r => simp at this; simp [this]
  · intro e
    cases r with
    | nil => cases e
    | cons c r => simp at e; simp [e]
/-! ### members as trees -/
def mapR {α β : Type} (g : α → β) : PR α → PR β
  | .error e => .error e
  | .ok q => .ok (g q.1, q.2)
def pItem (tab : Bool) (f : List Nat → PR RawV) (r : List Nat) : PR Tr := if tab = true then mapR (fun q => Tr.tup [.str q.1, rT q.2]) (pPair f r) else mapR rT (f r)
def clC (tab : Bool) : Nat := if tab = true then 125 else 93
def pMems (tab : Bool) : Nat → List Nat → PR (List Tr)
  | 0, r => .error (.deep r)
  | b + 1, r => pMem (pItem tab (pVal b)) (clC tab) r.tail
theorem pMore_map {α β : Type} {g : α → β} {f : List Nat → PR α} {cl : Nat} : ∀ (n : Nat) (acc : List α) (r : List Nat), pMore (fun r => mapR g (f r)) cl n (acc.map g) r = mapR (List.map g) (pMore f cl n acc r)
  | 0, acc, r => rfl
  | n + 1, acc, r => by
    rw [pMore, pMore]
    split
    · cases f r.tail with
      | error e => rfl
      | ok q =>
        show pMore _ cl n (acc.map g ++ [g q.1]) (blk q.2) = _
        rw [show acc.map g ++ [g q.1] = (acc ++ [q.1]).map g by rw [List.map_append]; rfl]
        exact pMore_map n _ _
    · cases pEx cl r <;> rfl
theorem pMem_map {α β : Type} {g : α → β} {f : List Nat → PR α} {cl : Nat} (r : List Nat) : pMem (fun r => mapR g (f r)) cl r = mapR (List.map g) (pMem f cl r) := by
  unfold pMem
  split
  · rfl
  · dsimp only
    cases f (blk r) with
    | error e => rfl
    | ok q => exact pMore_map _ [q.1] _
theorem pMems_row (b : Nat) (r : List Nat) : pMems false (b + 1) r = mapR (List.map rT) (pMem (pVal b) 93 r.tail) := by
  rw [pMems, show pItem false (pVal b) = fun r => mapR rT (pVal b r) from funext fun r => by unfold pItem; rw [if_neg (by decide)]]
  exact pMem_map r.tail
theorem pMems_tab (b : Nat) (r : List Nat) : pMems true (b + 1) r = mapR (List.map fun q : Str × RawV => Tr.tup [.str q.1, rT q.2]) (pMem (pPair (pVal b)) 125 r.tail) := by
  rw [pMems, show pItem true (pVal b) = fun r => mapR (fun q : Str × RawV => Tr.tup [.str q.1, rT q.2]) (pPair (pVal b) r) from funext fun r => by unfold pItem; rw [if_pos rfl]]
  exact pMem_map r.tail
theorem rTP_pairs (ps : List (Str × RawV)) : rTP (ps.map (·.1)) (ps.map (·.2)) = ps.map fun q => Tr.tup [.str q.1, rT q.2] := by
  rw [rTP_zip]
  congr 1
  induction ps with
  | nil => rfl
  | cons q ps ih => rw [List.map_cons, List.map_cons, List.zip_cons_cons, ih]
/-- a value by its first sign -/
theorem val_row {b : Nat} {r : List Nat} (h : (blk r).head? = some 91) : (∀ e, pMems false b (blk r) = .error e → pVal b r = .error e) ∧ ∀ q, pMems false b (blk r) = .ok q → ∃ v, pVal b r = .ok (v, q.2) ∧ rT v = .tup [.str "row", .lst q.1] := by
  cases b with
  | zero => exact ⟨fun e he => (by cases he; rw [pVal, if_pos (.inl h)]), fun q hq => nomatch hq⟩
  | succ b =>
    rw [pMems_row, pVal, if_pos h]
    cases pMem (pVal b) 93 (blk r).tail with
    | error e => exact ⟨fun e' he => (by cases he; rfl), fun q hq => nomatch hq⟩
    | ok q => exact ⟨fun e he => (nomatch he), fun q' hq => (by cases hq; exact ⟨_, rfl, by rw [rT, rTL_map]⟩)⟩
theorem val_tab {b : Nat} {r : List Nat} (h : (blk r).head? = some 123) : (∀ e, pMems true b (blk r) = .error e → pVal b r = .error e) ∧ ∀ q, pMems true b (blk r) = .ok q → ∃ v, pVal b r = .ok (v, q.2) ∧ rT v = .tup [.str "table", .lst q.1] := by
  cases b with
  | zero => exact ⟨fun e he => (by cases he; rw [pVal, if_pos (.inr h)]), fun q hq => nomatch hq⟩
  | succ b =>
    have n91 : ¬ (blk r).head? = some 91 := by rw [h]; decide
    rw [pMems_tab, pVal, if_neg n91, if_pos h]
    cases pMem (pPair (pVal b)) 125 (blk r).tail with
    | error e => exact ⟨fun e' he => (by cases he; rfl), fun q hq => nomatch hq⟩
    | ok q => exact ⟨fun e he => (nomatch he), fun q' hq => (by cases hq; exact ⟨_, rfl, by rw [rT, rTP_pairs]⟩)⟩
theorem val_leaf {b : Nat} {r : List Nat} (h1 : (blk r).head? ≠ some 91) (h2 : (blk r).head? ≠ some 123) : pVal b r = pLeaf (blk r) := by
  cases b with
  | zero => rw [pVal, if_neg (fun h => h.elim h1 h2)]
  | succ b => rw [pVal, if_neg h1, if_neg h2]
theorem mapR_suf {α β : Type} {g : α → β} {x : PR α} {r : List Nat} (h : Suf x r) : Suf (mapR g x) r := by
  cases x with
  | error e => exact ⟨fun q e => (by cases e), fun q e' => (by cases e'; exact h.2 _ rfl)⟩
  | ok q => exact ⟨fun q' e => (by cases e; exact h.1 _ rfl), fun q e => (by cases e)⟩
theorem pItem_suf {tab : Bool} {f : List Nat → PR RawV} (hf : ∀ r, Suf (f r) r) (r : List Nat) : Suf (pItem tab f r) r := by
  unfold pItem
  split
  · exact mapR_suf (pPair_suf hf r)
  · exact mapR_suf (hf r)
end KQ
namespace KQ
open PySem PySem.Spec PyProof.Rows L2 TL KB
/-! ### tokens of a raw value, on codes -/
def escL : List Nat → List Nat
  | [] => []
  | c :: r => if c = 34 ∨ c = 92 then 92 :: c :: escL r else c :: escL r
def strK (l : List Nat) : List Nat := 34 :: (escL l ++ [34])
def joinM (ts : List (List (List Nat))) : List (List Nat) := (ts.map fun t => [44] :: t).flatten
def joinC : List (List (List Nat)) → List (List Nat)
  | [] => []
  | t :: ts => t ++ joinM ts
def tokZ (ns : List Str) (ts : List (List (List Nat))) : List (List (List Nat)) := List.zipWith (fun n t => strK (tl n) :: [58] :: t) ns ts
mutual
def tokR : RawV → List (List Nat)
  | .non => [[110, 117, 108, 108]]
  | .bl b => [if b = true then [116, 114, 117, 101] else [102, 97, 108, 115, 101]]
  | .int n => [tl (intS n)]
  | .str z => [strK (tl z)]
  | .row xs => [91] :: (joinC (tokRs xs) ++ [[93]])
  | .tab ns xs => [123] :: (joinC (tokZ ns (tokRs xs)) ++ [[125]])
def tokRs : List RawV → List (List (List Nat))
  | [] => []
  | x :: xs => tokR x :: tokRs xs
end
theorem tokRs_map : ∀ xs : List RawV, tokRs xs = xs.map tokR
  | [] => rfl
  | x :: xs => by rw [tokRs, tokRs_map xs]; rfl
/-- the tokens with blanks behind each -/
inductive Spc : List (List Nat) → List Nat → Prop
  | nil : Spc [] []
  | cons {t : List Nat} {ts : List (List Nat)} {l : List Nat} (n : Nat) (h : Spc ts l) : Spc (t :: ts) (t ++ (List.replicate n 32 ++ l))
theorem Spc.split : ∀ {a b : List (List Nat)} {l : List Nat}, Spc (a ++ b) l → ∃ l1 l2, l = l1 ++ l2 ∧ Spc a l1 ∧ Spc b l2
  | [], b, l, h => ⟨[], l, rfl, .nil, h⟩
  | t :: a, b, l, h => by
    cases h with
    | cons n h =>
      obtain ⟨l1, l2, rfl, h1, h2⟩ := Spc.split h
      exact ⟨_, l2, by simp, .cons n h1, h2⟩
theorem Spc.join {a b : List (List Nat)} {l1 l2 : List Nat} (h1 : Spc a l1) (h2 : Spc b l2) : Spc (a ++ b) (l1 ++ l2) := by
  induction h1 with
  | nil => exact h2
  | cons n h ih => simpa using Spc.cons n ih
theorem Spc.flat : ∀ ts : List (List Nat), Spc ts ts.flatten
  | [] => .nil
  | t :: ts => Spc.cons 0 (Spc.flat ts)
theorem Spc.one {t l : List Nat} (h : Spc [t] l) : ∃ n, l = t ++ List.replicate n 32 := by
  cases h with
  | cons n h => cases h; exact ⟨n, by simp⟩
/-! ### reading -/
def NoD (r : List Nat) : Prop := (r.head?.map isDg).getD false = false
theorem blk_rep (m : Nat) (r : List Nat) : blk (List.replicate m 32 ++ r) = blk r := by
  induction m with
  | zero => rfl
  | succ m ih => rw [List.replicate_succ, List.cons_append, blk, if_pos rfl, ih]
theorem blk_nil (m : Nat) : blk (List.replicate m 32) = [] := by
  have := blk_rep m []
  rwa [List.append_nil] at this
theorem nod_rep {r : List Nat} (n : Nat) (h : NoD r) : NoD (List.replicate n 32 ++ r) := by
  cases n with
  | zero => exact h
  | succ n => rw [List.replicate_succ]; rfl
theorem pVal_rep (b m : Nat) (r : List Nat) : pVal b (List.replicate m 32 ++ r) = pVal b r := by
  cases b with
  | zero => rw [pVal, pVal, blk_rep]
  | succ b => rw [pVal, pVal, blk_rep]
def Rd {α : Type} (f : List Nat → PR α) (ts : List (List Nat)) (x : α) : Prop := ∀ (l rest : List Nat) (m : Nat), Spc ts l → NoD rest → ∃ n, f (List.replicate m 32 ++ (l ++ rest)) = .ok (x, List.replicate n 32 ++ rest)
theorem pDg_all : ∀ (n : Nat) (a r : List Nat), (∀ c ∈ a, isDg c = true) → a.length ≤ n → NoD r → pDg n (a ++ r) = (a, r)
  | n, [], r, _, _, h => pDg_none (.inr h)
  | 0, c :: a, r, _, hl, _ => by cases hl
  | n + 1, c :: a, r, hd, hl, h => by
    rw [List.cons_append, pDg, if_pos (hd c (List.mem_cons_self ..)), pDg_all n a r (fun x hx => hd x (List.mem_cons_of_mem _ hx)) (by simpa using hl) h]
theorem pNm_int {n : Int} (h : n.natAbs < 10 ^ 30) (r : List Nat) (hr : NoD r) : pNm (tl (intS n) ++ r) = .ok (.int n, r) := by
  have hk := dig_intS h
  have hb := intS_back h
  unfold digK at hk
  simp only [Bool.and_eq_true, decide_eq_true_eq, Bool.or_eq_true] at hk
  obtain ⟨⟨⟨h1, h2⟩, h3⟩, h4⟩ := hk
  have hd : ∀ c ∈ body (tl (intS n)), isDg c = true := List.all_eq_true.mp h3
  by_cases hm : (tl (intS n)).head? = some 45
  · obtain ⟨b, eb⟩ := head_cons hm
    have e2 : body (tl (intS n)) = b := by unfold body; rw [if_pos hm, eb]; rfl
    rw [e2] at h1 h2 h4 hd
    have h0 : b.head? ≠ some 48 := by
      rcases h4 with h4 | h4
      · rw [eb] at h4; cases h4
      · exact h4
    have ln := len_tl (intS n)
    rw [eb, List.length_cons] at ln
    have it := intText_neg eb (all_dg hd) h1 (by omega)
    rw [hb] at it
    rw [eb]
    unfold pNm
    rw [if_pos (by simp)]
    cases b with
    | nil => exact absurd rfl h1
    | cons c t =>
      have c48 : ¬ c = 48 := fun e => h0 (by rw [e]; rfl)
      show (if (c :: (t ++ r)).head? = some 48 then _ else pNd true (c :: (t ++ r))) = _
      rw [if_neg (by simpa using c48), pNd, if_neg (by rw [hd c (List.mem_cons_self ..)]; decide), if_neg c48]
      rw [pDg_all 29 t r (fun x hx => hd x (List.mem_cons_of_mem _ hx)) (by simpa using h2) hr, if_pos rfl, ← Option.some.inj it]
  · have e2 : body (tl (intS n)) = tl (intS n) := by unfold body; rw [if_neg hm]
    rw [e2] at h1 h2 h4 hd
    have it := intText_digits (x := intS n) (all_dg hd) h1 (by rw [len_tl]; omega)
    rw [hb] at it
    have it : n = ((NumText.digitsVal (tl (intS n)) : Nat) : Int) := Option.some.inj it
    generalize tl (intS n) = l at *
    cases l with
    | nil => exact absurd rfl h1
    | cons c t =>
      unfold pNm
      rw [if_neg (by simpa using hm), List.cons_append, pNd, if_neg (by rw [hd c (List.mem_cons_self ..)]; decide)]
      by_cases c48 : c = 48
      · have et : t = [] := by
          rcases h4 with h4 | h4
          · cases h4; rfl
          · exact absurd (by rw [c48]; rfl) h4
        rw [if_pos c48, it, c48, et]
        rfl
      · rw [if_neg c48, pDg_all 29 t r (fun x hx => hd x (List.mem_cons_of_mem _ hx)) (by simpa using h2) hr, if_neg Bool.false_ne_true, ← it]
theorem pSt_esc : ∀ (l r : List Nat), pSt (escL l ++ 34 :: r) = .ok (l, r)
  | [], r => by rw [escL, List.nil_append, pSt.eq_def]; dsimp only; rw [if_pos rfl]
  | c :: l, r => by
    rw [escL]
    split
    · rename_i h
      rw [List.cons_append, List.cons_append, pSt.eq_def]
      dsimp only
      rw [if_neg (by decide), if_pos rfl, if_pos h, pSt_esc l r]
    · rename_i h
      rw [List.cons_append, pSt.eq_def]
      dsimp only
      rw [if_neg (fun e => h (.inl e)), if_neg (fun e => h (.inr e)), pSt_esc l r]
theorem pStr_esc (l r : List Nat) : pStr (strK l ++ r) = .ok (l, r) := by
  unfold pStr strK
  rw [List.cons_append, pEx_yes, List.append_assoc]
  exact pSt_esc l r
theorem joinM_cons {t : List (List Nat)} {ts : List (List (List Nat))} : joinM (t :: ts) = [44] :: (t ++ joinM ts) := by
  unfold joinM; rw [List.map_cons, List.flatten_cons]; rfl
section
variable {α : Type} {f : List Nat → PR α} {cl : Nat}
end
/-! what is read back: integers of at most thirty digits, names for all items -/
mutual
def RNm : RawV → Prop
  | .row xs => RNmL xs
  | .tab ns xs => RNmL xs ∧ ns.length = xs.length
  | .non => True
  | .bl _ => True
  | .int n => n.natAbs < 10 ^ 30
  | .str _ => True
def RNmL : List RawV → Prop
  | [] => True
  | x :: xs => RNm x ∧ RNmL xs
end
mutual
theorem RNm.of : ∀ {v : RawV}, ROk v → RNm v
  | .row xs, h => RNmL.of (xs := xs) h
  | .tab ns xs, h => ⟨RNmL.of (xs := xs) h.1, h.2.1⟩
  | .non, _ => trivial
  | .bl _, _ => trivial
  | .int _, h => h
  | .str _, _ => trivial
theorem RNmL.of : ∀ {xs : List RawV}, ROkL xs → RNmL xs
  | [], _ => trivial
  | x :: xs, h => ⟨RNm.of h.1, RNmL.of (xs := xs) h.2⟩
end
theorem tok_headN (v : RawV) (h : RNm v) : ∃ c t1 ts, tokR v = (c :: t1) :: ts ∧ c ≠ 93 ∧ c ≠ 125 ∧ c ≠ 32 := by
  cases v with
  | non => exact ⟨_, _, _, rfl, by decide, by decide, by decide⟩
  | bl b => cases b <;> exact ⟨_, _, _, rfl, by decide, by decide, by decide⟩
  | str z => exact ⟨_, _, _, rfl, by decide, by decide, by decide⟩
  | row xs => exact ⟨_, _, _, by rw [tokR], by decide, by decide, by decide⟩
  | tab ns xs => exact ⟨_, _, _, by rw [tokR], by decide, by decide, by decide⟩
  | int n =>
    have hk := dig_intS (show n.natAbs < 10 ^ 30 from h)
    unfold digK at hk
    simp only [Bool.and_eq_true, decide_eq_true_eq, Bool.or_eq_true] at hk
    obtain ⟨⟨⟨h1, h2⟩, h3⟩, h4⟩ := hk
    have hd : ∀ c ∈ body (tl (intS n)), isDg c = true := List.all_eq_true.mp h3
    rw [tokR]
    by_cases hm : (tl (intS n)).head? = some 45
    · obtain ⟨b, eb⟩ := head_cons hm
      exact ⟨45, b, [], by rw [eb], by decide, by decide, by decide⟩
    · have e2 : body (tl (intS n)) = tl (intS n) := by unfold body; rw [if_neg hm]
      rw [e2] at h1 hd
      generalize tl (intS n) = l at *
      cases l with
      | nil => exact absurd rfl h1
      | cons c t =>
        have := hd c (List.mem_cons_self ..)
        unfold isDg at this
        simp at this
        exact ⟨c, t, [], rfl, by omega, by omega, by omega⟩
theorem rdepthL_mem {xs : List RawV} {x : RawV} (h : x ∈ xs) : rdepth x ≤ rdepthL xs := by
  induction xs with
  | nil => cases h
  | cons y ys ih =>
    rw [rdepthL]
    rcases List.mem_cons.mp h with h | h
    · subst h; omega
    · have := ih h; omega
theorem ROkL_mem {xs : List RawV} {x : RawV} (hx : ROkL xs) (h : x ∈ xs) : ROk x := by
  induction xs with
  | nil => cases h
  | cons y ys ih =>
    rcases List.mem_cons.mp h with h | h
    · subst h; exact hx.1
    · exact ih hx.2 h
theorem int_first {n : Int} (h : n.natAbs < 10 ^ 30) : ∃ c t, tl (intS n) = c :: t ∧ (c = 45 ∨ (48 ≤ c ∧ c ≤ 57)) := by
  have hk := dig_intS h
  unfold digK at hk
  simp only [Bool.and_eq_true, decide_eq_true_eq, Bool.or_eq_true] at hk
  obtain ⟨⟨⟨h1, h2⟩, h3⟩, h4⟩ := hk
  have hd : ∀ c ∈ body (tl (intS n)), isDg c = true := List.all_eq_true.mp h3
  by_cases hm : (tl (intS n)).head? = some 45
  · obtain ⟨b, eb⟩ := head_cons hm
    exact ⟨45, b, eb, .inl rfl⟩
  · have e2 : body (tl (intS n)) = tl (intS n) := by unfold body; rw [if_neg hm]
    rw [e2] at h1 hd
    generalize tl (intS n) = l at *
    cases l with
    | nil => exact absurd rfl h1
    | cons c t =>
      have := hd c (List.mem_cons_self ..)
      unfold isDg at this
      simp at this
      exact ⟨c, t, rfl, .inr this⟩
theorem tok_head (v : RawV) (h : ROk v) : ∃ c t1 ts, tokR v = (c :: t1) :: ts ∧ c ≠ 93 ∧ c ≠ 125 ∧ c ≠ 32 := tok_headN v (RNm.of h)
/-! ### without the blanks outside strings -/
def sqz : Bool → Bool → List Nat → List Nat
  | _, _, [] => []
  | ins, esc, c :: r => (if ins = true ∨ c ≠ 32 then [c] else []) ++ (if esc = true then sqz ins false r else if ins = true ∧ c = 92 then sqz ins true r else if c = 34 then sqz (!ins) false r else sqz ins false r)
theorem sqz_rep (n : Nat) (r : List Nat) : sqz false false (List.replicate n 32 ++ r) = sqz false false r := by
  induction n with
  | zero => rfl
  | succ n ih =>
    rw [List.replicate_succ, List.cons_append, sqz]
    simpa using ih
def Plain (t : List Nat) : Prop := ∀ r, sqz false false (t ++ r) = t ++ sqz false false r
theorem plain_of : ∀ {t : List Nat}, (∀ c ∈ t, c ≠ 32 ∧ c ≠ 34) → Plain t
  | [], _ => fun r => rfl
  | c :: t, h => fun r => by
    have ⟨h1, h2⟩ := h c (List.mem_cons_self ..)
    rw [List.cons_append, sqz, if_pos (.inr h1), if_neg Bool.false_ne_true, if_neg (by simp), if_neg h2, plain_of (fun d hd => h d (List.mem_cons_of_mem _ hd)) r]
    rfl
theorem plain_int {n : Int} (h : n.natAbs < 10 ^ 30) : Plain (tl (intS n)) := plain_of fun c hc => by
  unfold intS at hc
  rw [tl_int] at hc
  unfold intL at hc
  have hd := numL_digits n.natAbs
  split at hc
  · rcases List.mem_cons.mp hc with hc | hc
    · subst hc; decide
    · have := hd c hc; omega
  · have := hd c hc; omega
theorem sqz_esc : ∀ (l r : List Nat), sqz true false (escL l ++ r) = escL l ++ sqz true false r
  | [], r => rfl
  | c :: l, r => by
    rw [escL]
    split
    · rename_i h
      rw [List.cons_append, List.cons_append, sqz, if_pos (.inl rfl), if_neg Bool.false_ne_true, if_pos ⟨rfl, rfl⟩, sqz, if_pos (.inl rfl), if_pos rfl, sqz_esc l r]
      rfl
    · rename_i h
      rw [List.cons_append, sqz, if_pos (.inl rfl), if_neg Bool.false_ne_true, if_neg (fun e => h (.inr e.2)), if_neg (fun e => h (.inl e)), sqz_esc l r]
      rfl
theorem plain_str (l : List Nat) : Plain (strK l) := fun r => by
  have e : sqz true false (34 :: r) = 34 :: sqz false false r := by rw [sqz, if_pos (.inl rfl), if_neg Bool.false_ne_true, if_neg (by simp), if_pos rfl]; rfl
  have e2 : sqz false false (34 :: (escL l ++ 34 :: r)) = 34 :: sqz true false (escL l ++ 34 :: r) := by rw [sqz, if_pos (.inr (by decide)), if_neg Bool.false_ne_true, if_neg (by simp), if_pos rfl]; rfl
  have e3 : strK l ++ r = 34 :: (escL l ++ 34 :: r) := by unfold strK; simp
  rw [e3, e2, sqz_esc, e]
  unfold strK; simp
def rndR (v : RawV) : List Nat := (tokR v).flatten
/-! ### the text as it is written -/
theorem esc_eq (l : List Nat) : KB.esc l = escL l := by
  induction l with
  | nil => rfl
  | cons c r ih =>
    show KB.escC c ++ KB.esc r = _
    rw [ih, escL]
    unfold KB.escC
    split <;> rfl
theorem strK_eq (l : List Nat) : KB.strL l = strK l := by unfold KB.strL strK; rw [esc_eq]
theorem strK_len (l : List Nat) : (strK l).length ≤ 2 * l.length + 2 := by rw [← strK_eq]; exact KB.strL_len l
theorem flat_joinM : ∀ tss : List (List (List Nat)), (joinM tss).flatten = (tss.map fun t => 44 :: t.flatten).flatten
  | [] => rfl
  | t :: tss => by rw [joinM_cons, List.flatten_cons, List.flatten_append, flat_joinM tss, List.map_cons, List.flatten_cons]; simp
theorem joinL_cons (p : List Nat) (ls : List (List Nat)) : TL.joinL [44] (p :: ls) = p ++ (ls.map fun l => 44 :: l).flatten := by
  induction ls generalizing p with
  | nil => simp [TL.joinL]
  | cons q r ih =>
    show p ++ ([44] ++ TL.joinL [44] (q :: r)) = _
    rw [ih q, List.map_cons, List.flatten_cons]
    rfl
theorem flat_joinC (tss : List (List (List Nat))) : (joinC tss).flatten = TL.joinL [44] (tss.map List.flatten) := by
  cases tss with
  | nil => rfl
  | cons t tss =>
    show (t ++ joinM tss).flatten = _
    rw [List.flatten_append, flat_joinM, List.map_cons, joinL_cons, List.map_map]
    rfl
theorem rend_row (xs : List RawV) : rndR (.row xs) = 91 :: (TL.joinL [44] (xs.map rndR) ++ [93]) := by
  unfold rndR
  rw [tokR, tokRs_map, List.flatten_cons, List.flatten_append, flat_joinC, List.map_map]
  rfl
theorem rend_tab (ns : List Str) (xs : List RawV) : rndR (.tab ns xs) = 123 :: (TL.joinL [44] ((ns.zip xs).map fun q => strK (tl q.1) ++ 58 :: rndR q.2) ++ [125]) := by
  unfold rndR
  rw [tokR, tokRs_map, List.flatten_cons, List.flatten_append, flat_joinC]
  have : (tokZ ns (xs.map tokR)).map List.flatten = (ns.zip xs).map fun q => strK (tl q.1) ++ 58 :: (tokR q.2).flatten := by
    unfold tokZ
    induction ns generalizing xs with
    | nil => rfl
    | cons n ns ih =>
      cases xs with
      | nil => rfl
      | cons x xs =>
        rw [List.map_cons, List.zipWith_cons_cons, List.map_cons, List.zip_cons_cons, List.map_cons, ih xs]
        rfl
  rw [this]
  rfl
theorem rend_leaf_len {v : RawV} (h0 : rdepth v = 0) (ok : ROk v) : (rndR v).length + 700 ≤ 2000 := by
  cases v with
  | non => decide
  | bl b => cases b <;> decide
  | str z =>
    have h1 := strK_len (tl z)
    have h2 : z.length ≤ 300 := ok.2
    rw [len_tl] at h2
    show ([strK (tl z)].flatten).length + 700 ≤ _
    simp only [List.flatten_cons, List.flatten_nil, List.append_nil]
    omega
  | int n =>
    have := len_int (n := n) (k := 30) (by decide) ok
    show ([tl (intS n)].flatten).length + 700 ≤ _
    simp only [List.flatten_cons, List.flatten_nil, List.append_nil]
    rw [← len_tl]
    unfold intS
    omega
  | row xs => simp [rdepth] at h0
  | tab ns xs => simp [rdepth] at h0
theorem rpartsL_mem {xs : List RawV} {x : RawV} (h : x ∈ xs) : rparts x ≤ rpartsL xs := by
  obtain ⟨i, hi⟩ := List.mem_iff_getElem?.mp h
  exact rparts_get hi
theorem sum_rend {f : Str × RawV → List Nat} : ∀ {xs : List RawV} {ns : List Str}, ns.length = xs.length → (∀ n x, n ∈ ns → x ∈ xs → (f (n, x)).length + 1 ≤ 2000 * rparts x) → (((ns.zip xs).map f).map List.length).sum + ((ns.zip xs).map f).length ≤ 2000 * rpartsL xs
  | [], [], _, _ => by simp [rpartsL]
  | x :: xs, n :: ns, l, h => by
    have h1 := h n x (List.mem_cons_self ..) (List.mem_cons_self ..)
    have h2 := sum_rend (xs := xs) (ns := ns) (by simpa using l) fun m y hm hy => h m y (List.mem_cons_of_mem _ hm) (List.mem_cons_of_mem _ hy)
    rw [List.zip_cons_cons, List.map_cons, List.map_cons, List.sum_cons, List.length_cons, rpartsL]
    omega
theorem sum_rendL : ∀ {xs : List RawV}, (∀ x ∈ xs, (rndR x).length + 1 ≤ 2000 * rparts x) → ((xs.map rndR).map List.length).sum + (xs.map rndR).length ≤ 2000 * rpartsL xs
  | [], _ => by decide
  | x :: xs, h => by
    have h1 := h x (List.mem_cons_self ..)
    have h2 := sum_rendL (xs := xs) fun y hy => h y (List.mem_cons_of_mem _ hy)
    rw [List.map_cons, List.map_cons, List.sum_cons, List.length_cons, rpartsL]
    omega
theorem rend_len : ∀ (b : Nat) (v : RawV), rdepth v ≤ b → ROk v → (rndR v).length + 700 ≤ 2000 * rparts v := by
  intro b
  induction b with
  | zero =>
    intro v hd ok
    have h0 : rdepth v = 0 := by omega
    have := rend_leaf_len h0 ok
    cases v with
    | row xs => simp [rdepth] at hd
    | tab ns xs => simp [rdepth] at hd
    | _ => exact this
  | succ b ih =>
    intro v hd ok
    cases v with
    | row xs =>
      have hd : 1 + rdepthL xs ≤ b + 1 := hd
      have s := sum_rendL (xs := xs) fun x hx => by have := ih x (by have := rdepthL_mem hx; omega) (ROkL_mem ok hx); omega
      have j := KB.join_sum 44 (xs.map rndR)
      rw [rend_row]
      show _ ≤ 2000 * (1 + rpartsL xs)
      simp only [List.length_cons, List.length_append, List.length_nil]
      omega
    | tab ns xs =>
      have hd : 1 + rdepthL xs ≤ b + 1 := hd
      obtain ⟨ok, ln, on⟩ := ok
      have s := sum_rend (f := fun q => strK (tl q.1) ++ 58 :: rndR q.2) ln fun n x hn hx => by
        have := ih x (by have := rdepthL_mem hx; omega) (ROkL_mem ok hx)
        have h1 := strK_len (tl n)
        have h2 := (on n hn).2
        rw [len_tl] at h2
        simp only [List.length_append, List.length_cons]
        omega
      have j := KB.join_sum 44 ((ns.zip xs).map fun q => strK (tl q.1) ++ 58 :: rndR q.2)
      rw [rend_tab]
      show _ ≤ 2000 * (1 + rpartsL xs)
      simp only [List.length_cons, List.length_append, List.length_nil]
      omega
    | non => exact ih .non (Nat.zero_le _) ok
    | bl c => exact ih (.bl c) (Nat.zero_le _) ok
    | int n => exact ih (.int n) (Nat.zero_le _) ok
    | str z => exact ih (.str z) (Nat.zero_le _) ok
theorem rndR_le {v : RawV} (ok : ROk v) : (rndR v).length + 700 ≤ 2000 * rparts v := rend_len (rdepth v) v (Nat.le_refl _) ok
/-! ### its signs -/
def PrL (l : List Nat) : Prop := ∀ c ∈ l, 32 ≤ c ∧ c < 127
theorem PrL.mk {l : List Nat} (h : PrL l) : Pr (mkS l) := fun c hc => h c (by rw [tl_mkS] at hc; exact hc)
theorem prL_app {a b : List Nat} (ha : PrL a) (hb : PrL b) : PrL (a ++ b) := fun c hc => (List.mem_append.mp hc).elim (ha c) (hb c)
theorem prL_rep (n : Nat) : PrL (List.replicate n 32) := fun c hc => by rw [List.eq_of_mem_replicate hc]; decide
theorem prL_esc {l : List Nat} (h : PrL l) : PrL (escL l) := by
  induction l with
  | nil => intro c hc; cases hc
  | cons d r ih =>
    have hd := h d (List.mem_cons_self ..)
    have hr := ih fun c hc => h c (List.mem_cons_of_mem _ hc)
    rw [escL]
    split
    · intro c hc
      rcases List.mem_cons.mp hc with hc | hc
      · subst hc; decide
      rcases List.mem_cons.mp hc with hc | hc
      · subst hc; exact hd
      · exact hr c hc
    · intro c hc
      rcases List.mem_cons.mp hc with hc | hc
      · subst hc; exact hd
      · exact hr c hc
theorem prL_str {l : List Nat} (h : PrL l) : PrL (strK l) := by
  unfold strK
  intro c hc
  rcases List.mem_cons.mp hc with hc | hc
  · subst hc; decide
  · exact prL_app (prL_esc h) (by intro c hc; rw [List.mem_singleton] at hc; subst hc; decide) c hc
theorem prL_int (n : Int) : PrL (tl (intS n)) := fun c hc => by
  unfold intS at hc
  rw [tl_int] at hc
  unfold intL at hc
  have hd := numL_digits n.natAbs
  split at hc
  · rcases List.mem_cons.mp hc with hc | hc
    · subst hc; decide
    · have := hd c hc; omega
  · have := hd c hc; omega
theorem prL_joinM {tss : List (List (List Nat))} (h : ∀ ts ∈ tss, ∀ t ∈ ts, PrL t) : ∀ t ∈ joinM tss, PrL t := fun t ht => by
  unfold joinM at ht
  obtain ⟨ts, h1, h2⟩ := List.mem_flatten.mp ht
  obtain ⟨u, hu, rfl⟩ := List.mem_map.mp h1
  rcases List.mem_cons.mp h2 with h2 | h2
  · subst h2; intro c hc; rw [List.mem_singleton] at hc; subst hc; decide
  · exact h u hu t h2
theorem prL_joinC {tss : List (List (List Nat))} (h : ∀ ts ∈ tss, ∀ t ∈ ts, PrL t) : ∀ t ∈ joinC tss, PrL t := by
  cases tss with
  | nil => intro t ht; cases ht
  | cons ts tss =>
    intro t ht
    rcases List.mem_append.mp ht with ht | ht
    · exact h ts (List.mem_cons_self ..) t ht
    · exact prL_joinM (fun us hu => h us (List.mem_cons_of_mem _ hu)) t ht
theorem prL_one {k : Nat} (h : 32 ≤ k ∧ k < 127) : PrL [k] := fun c hc => by rw [List.mem_singleton] at hc; subst hc; exact h
theorem pr_toks : ∀ (b : Nat) (v : RawV), rdepth v ≤ b → ROk v → ∀ t ∈ tokR v, PrL t := by
  intro b
  induction b with
  | zero =>
    intro v hd ok
    cases v with
    | non => intro t ht; rw [tokR, List.mem_singleton] at ht; subst ht; unfold PrL; decide
    | bl b => intro t ht; rw [tokR, List.mem_singleton] at ht; subst ht; unfold PrL; cases b <;> decide
    | str z => intro t ht; rw [tokR, List.mem_singleton] at ht; subst ht; exact prL_str fun c hc => ok.1 c hc
    | int n => intro t ht; rw [tokR, List.mem_singleton] at ht; subst ht; exact prL_int n
    | row xs => simp [rdepth] at hd
    | tab ns xs => simp [rdepth] at hd
  | succ b ih =>
    intro v hd ok
    cases v with
    | row xs =>
      have hd : 1 + rdepthL xs ≤ b + 1 := hd
      intro t ht
      rw [tokR, tokRs_map] at ht
      rcases List.mem_cons.mp ht with ht | ht
      · subst ht; exact prL_one (by decide)
      rcases List.mem_append.mp ht with ht | ht
      · refine prL_joinC (fun ts hts => ?_) t ht
        obtain ⟨x, hx, rfl⟩ := List.mem_map.mp hts
        exact ih x (by have := rdepthL_mem hx; omega) (ROkL_mem ok hx)
      · rw [List.mem_singleton] at ht; subst ht; exact prL_one (by decide)
    | tab ns xs =>
      have hd : 1 + rdepthL xs ≤ b + 1 := hd
      obtain ⟨ok, ln, on⟩ := ok
      intro t ht
      rw [tokR, tokRs_map] at ht
      rcases List.mem_cons.mp ht with ht | ht
      · subst ht; exact prL_one (by decide)
      rcases List.mem_append.mp ht with ht | ht
      · refine prL_joinC (fun ts hts => ?_) t ht
        unfold tokZ at hts
        obtain ⟨i, hi, e⟩ := List.mem_iff_getElem.mp hts
        rw [List.getElem_zipWith] at e
        have hn : ns[i]? = some (ns[i]'(by simp at hi; omega)) := List.getElem?_eq_getElem _
        have hn := List.mem_of_getElem? hn
        have hx : xs[i]? = some (xs[i]'(by simp at hi; omega)) := List.getElem?_eq_getElem _
        have hx := List.mem_of_getElem? hx
        rw [List.getElem_map] at e
        subst e
        intro t ht
        rcases List.mem_cons.mp ht with ht | ht
        · subst ht; exact prL_str fun c hc => (on _ hn).1 c hc
        rcases List.mem_cons.mp ht with ht | ht
        · subst ht; exact prL_one (by decide)
        · exact ih _ (by have := rdepthL_mem hx; omega) (ROkL_mem ok hx) t ht
      · rw [List.mem_singleton] at ht; subst ht; exact prL_one (by decide)
    | non => exact ih .non (Nat.zero_le _) ok
    | bl c => exact ih (.bl c) (Nat.zero_le _) ok
    | int n => exact ih (.int n) (Nat.zero_le _) ok
    | str z => exact ih (.str z) (Nat.zero_le _) ok
theorem toks_pr {v : RawV} (ok : ROk v) : ∀ t ∈ tokR v, PrL t := pr_toks (rdepth v) v (Nat.le_refl _) ok
theorem prL_spc {ts : List (List Nat)} {l : List Nat} (h : Spc ts l) (hp : ∀ t ∈ ts, PrL t) : PrL l := by
  induction h with
  | nil => intro c hc; cases hc
  | cons n h ih => exact prL_app (hp _ (List.mem_cons_self ..)) (prL_app (prL_rep n) (ih fun t ht => hp t (List.mem_cons_of_mem _ ht)))
/-! ### how many tokens -/
theorem ne_joinC {tss : List (List (List Nat))} (h : ∀ ts ∈ tss, ∀ t ∈ ts, 1 ≤ t.length) : ∀ t ∈ joinC tss, 1 ≤ t.length := by
  have hm : ∀ tss : List (List (List Nat)), (∀ ts ∈ tss, ∀ t ∈ ts, 1 ≤ t.length) → ∀ t ∈ joinM tss, 1 ≤ t.length := fun tss h t ht => by
    unfold joinM at ht
    obtain ⟨ts, h1, h2⟩ := List.mem_flatten.mp ht
    obtain ⟨u, hu, rfl⟩ := List.mem_map.mp h1
    rcases List.mem_cons.mp h2 with h2 | h2
    · subst h2; exact Nat.le_refl _
    · exact h u hu t h2
  cases tss with
  | nil => intro t ht; cases ht
  | cons ts tss =>
    intro t ht
    rcases List.mem_append.mp ht with ht | ht
    · exact h ts (List.mem_cons_self ..) t ht
    · exact hm tss (fun us hu => h us (List.mem_cons_of_mem _ hu)) t ht
theorem ne_toks : ∀ (b : Nat) (v : RawV), rdepth v ≤ b → ROk v → ∀ t ∈ tokR v, 1 ≤ t.length := by
  intro b
  induction b with
  | zero =>
    intro v hd ok t ht
    cases v with
    | non => rw [tokR, List.mem_singleton] at ht; subst ht; decide
    | bl b => rw [tokR, List.mem_singleton] at ht; subst ht; cases b <;> decide
    | str z => rw [tokR, List.mem_singleton] at ht; subst ht; unfold strK; simp
    | int n =>
      rw [tokR, List.mem_singleton] at ht; subst ht
      obtain ⟨c, t, e, _⟩ := int_first (n := n) ok
      rw [e]; simp
    | row xs => simp [rdepth] at hd
    | tab ns xs => simp [rdepth] at hd
  | succ b ih =>
    intro v hd ok
    cases v with
    | row xs =>
      have hd : 1 + rdepthL xs ≤ b + 1 := hd
      intro t ht
      rw [tokR, tokRs_map] at ht
      rcases List.mem_cons.mp ht with ht | ht
      · subst ht; decide
      rcases List.mem_append.mp ht with ht | ht
      · refine ne_joinC (fun ts hts => ?_) t ht
        obtain ⟨x, hx, rfl⟩ := List.mem_map.mp hts
        exact ih x (by have := rdepthL_mem hx; omega) (ROkL_mem ok hx)
      · rw [List.mem_singleton] at ht; subst ht; decide
    | tab ns xs =>
      have hd : 1 + rdepthL xs ≤ b + 1 := hd
      obtain ⟨ok, ln, on⟩ := ok
      intro t ht
      rw [tokR, tokRs_map] at ht
      rcases List.mem_cons.mp ht with ht | ht
      · subst ht; decide
      rcases List.mem_append.mp ht with ht | ht
      · refine ne_joinC (fun ts hts => ?_) t ht
        unfold tokZ at hts
        obtain ⟨i, hi, e⟩ := List.mem_iff_getElem.mp hts
        rw [List.getElem_zipWith] at e
        have hx : xs[i]? = some (xs[i]'(by simp at hi; omega)) := List.getElem?_eq_getElem _
        have hx := List.mem_of_getElem? hx
        rw [List.getElem_map] at e
        subst e
        intro t ht
        rcases List.mem_cons.mp ht with ht | ht
        · subst ht; unfold strK; simp
        rcases List.mem_cons.mp ht with ht | ht
        · subst ht; decide
        · exact ih _ (by have := rdepthL_mem hx; omega) (ROkL_mem ok hx) t ht
      · rw [List.mem_singleton] at ht; subst ht; decide
    | non => exact ih .non (Nat.zero_le _) ok
    | bl c => exact ih (.bl c) (Nat.zero_le _) ok
    | int n => exact ih (.int n) (Nat.zero_le _) ok
    | str z => exact ih (.str z) (Nat.zero_le _) ok
theorem tokR_ne {v : RawV} (ok : ROk v) : ∀ t ∈ tokR v, 1 ≤ t.length := ne_toks (rdepth v) v (Nat.le_refl _) ok
theorem toks_len {v : RawV} (ok : ROk v) : (tokR v).length ≤ (rndR v).length := by
  have : ∀ ts : List (List Nat), (∀ t ∈ ts, 1 ≤ t.length) → ts.length ≤ ts.flatten.length := by
    intro ts
    induction ts with
    | nil => intro _; exact Nat.zero_le _
    | cons t ts ih =>
      intro h
      have := h t (List.mem_cons_self ..)
      have := ih fun u hu => h u (List.mem_cons_of_mem _ hu)
      rw [List.flatten_cons, List.length_append, List.length_cons]
      omega
  exact this _ (tokR_ne ok)
/-! ### for the walks -/
def tkT (t : List Nat) : Tr := .str (mkS t)
theorem escL_app (a b : List Nat) : escL (a ++ b) = escL a ++ escL b := by rw [← esc_eq, ← esc_eq, ← esc_eq]; exact List.flatMap_append
theorem escL_len (l : List Nat) : (escL l).length ≤ 2 * l.length := by rw [← esc_eq]; exact KB.esc_len l
theorem joinM_app (a b : List (List (List Nat))) : joinM (a ++ b) = joinM a ++ joinM b := by unfold joinM; rw [List.map_append, List.flatten_append]
theorem joinC_snoc {tss : List (List (List Nat))} {t : List (List Nat)} : joinC (tss ++ [t]) = if tss = [] then t else joinC tss ++ [44] :: t := by
  cases tss with
  | nil => rw [if_pos rfl]; show t ++ joinM [] = t; unfold joinM; simp
  | cons u tss =>
    rw [if_neg (by simp)]
    show u ++ joinM (tss ++ [t]) = u ++ joinM tss ++ _
    rw [joinM_app, joinM_cons, List.append_assoc]
    simp [joinM]
theorem joinC_take_len (tss : List (List (List Nat))) (i : Nat) : (joinC (tss.take i)).length ≤ (joinC tss).length := by
  cases tss with
  | nil => simp
  | cons u tss =>
    cases i with
    | zero => exact Nat.zero_le _
    | succ i =>
      show (u ++ joinM (tss.take i)).length ≤ (u ++ joinM tss).length
      have : joinM tss = joinM (tss.take i) ++ joinM (tss.drop i) := by rw [← joinM_app, List.take_append_drop]
      rw [this]
      simp only [List.length_append]
      omega
theorem joinC_nil {tss : List (List (List Nat))} (h : ∀ t ∈ tss, t ≠ []) : (joinC tss).isEmpty = tss.isEmpty := by
  cases tss with
  | nil => rfl
  | cons u tss =>
    have := h u (List.mem_cons_self ..)
    cases u with
    | nil => exact absurd rfl this
    | cons a u => rfl
theorem tokZ_zip (ns : List Str) (xs : List RawV) : tokZ ns (xs.map tokR) = (ns.zip xs).map fun q => strK (tl q.1) :: [58] :: tokR q.2 := by
  unfold tokZ
  induction ns generalizing xs with
  | nil => rfl
  | cons n ns ih =>
    cases xs with
    | nil => rfl
    | cons x xs => rw [List.map_cons, List.zipWith_cons_cons, List.zip_cons_cons, List.map_cons, ih xs]
theorem tok_row (xs : List RawV) : tokR (.row xs) = [91] :: (joinC (xs.map tokR) ++ [[93]]) := by rw [tokR, tokRs_map]
theorem tok_tab (ns : List Str) (xs : List RawV) : tokR (.tab ns xs) = [123] :: (joinC ((ns.zip xs).map fun q => strK (tl q.1) :: [58] :: tokR q.2) ++ [[125]]) := by rw [tokR, tokRs_map, tokZ_zip]
theorem tok_nonil {v : RawV} (ok : ROk v) : tokR v ≠ [] := by
  obtain ⟨c, t1, ts, e, _⟩ := tok_head v ok
  rw [e]; exact fun h => nomatch h
theorem lit92 : Str.ofString "\\" = mkS [92] := ext_tl (by rw [tl_mkS]; decide +kernel)
theorem lit44 : Str.ofString "," = mkS [44] := ext_tl (by rw [tl_mkS]; decide +kernel)
theorem lit58 : Str.ofString ":" = mkS [58] := ext_tl (by rw [tl_mkS]; decide +kernel)
theorem lit91 : Str.ofString "[" = mkS [91] := ext_tl (by rw [tl_mkS]; decide +kernel)
theorem lit93 : Str.ofString "]" = mkS [93] := ext_tl (by rw [tl_mkS]; decide +kernel)
theorem lit123 : Str.ofString "{" = mkS [123] := ext_tl (by rw [tl_mkS]; decide +kernel)
theorem lit125 : Str.ofString "}" = mkS [125] := ext_tl (by rw [tl_mkS]; decide +kernel)
theorem sgn_lit {c k : Nat} {s : String} (h : tl (Str.ofString s) = [k]) : ({ cps := #[c] } : Str) = Str.ofString s ↔ c = k := Iff.trans (hd_eq (r := [c]) h) (by simp)
theorem mkS_app (a b : List Nat) : mkS a ++ mkS b = mkS (a ++ b) := ext_tl (by rw [tl_append, tl_mkS, tl_mkS, tl_mkS])
theorem sp_mul (m : Int) : Txt.mul (Str.ofString " ") m = mkS (List.replicate m.toNat 32) := tmul_sp m
theorem Sub.trans {a b c : Sto} (h : Sub a b) (g : Sub b c) : Sub a c := fun x d e => g x d (h x d e)
theorem Spc.snoc {ts : List (List Nat)} {l t : List Nat} (h : Spc ts l) (n : Nat) : Spc (ts ++ [t]) (l ++ (t ++ List.replicate n 32)) := by
  refine h.join ?_
  have := Spc.cons (t := t) n Spc.nil
  rwa [List.append_nil] at this
theorem sub_none {S S3 : Sto} {p : Addr} (h : Sub S S3) (n : S3 p = none) : S p = none := by
  cases e : S p with
  | none => rfl
  | some d => rw [h p d e] at n; cases n
theorem sub_put {S S2 : Sto} {p : Addr} {c : Tr} (h : Sub S S2) (n : S p = none) : Sub S (put S2 p c) := fun b d e => by
  rw [put_ne (fun z => by subst z; rw [n] at e; cases e)]
  exact h b d e
end KQ
namespace KQ
open PySem PySem.Spec PyProof.Rows L2 TL KB
/-! ### the writer's words are plain texts -/
/-! ### told answers compared with themselves -/
/-! ### raw values that are alike -/
/-! names and items go together -/
mutual
def RSh : RawV → Prop
  | .row xs => RShL xs
  | .tab ns xs => RShL xs ∧ ns.length = xs.length
  | .non => True
  | .bl _ => True
  | .int _ => True
  | .str _ => True
def RShL : List RawV → Prop
  | [] => True
  | x :: xs => RSh x ∧ RShL xs
end
mutual
theorem RSh.of : ∀ {v : RawV}, ROk v → RSh v
  | .row xs, h => RShL.of (xs := xs) h
  | .tab ns xs, h => ⟨RShL.of (xs := xs) h.1, h.2.1⟩
  | .non, _ => trivial
  | .bl _, _ => trivial
  | .int _, _ => trivial
  | .str _, _ => trivial
theorem RShL.of : ∀ {xs : List RawV}, ROkL xs → RShL xs
  | [], _ => trivial
  | x :: xs, h => ⟨RSh.of h.1, RShL.of (xs := xs) h.2⟩
end
/-! ### raw values of lists of members -/
/-! ### unlike values have unlike texts -/
/-! ### strings that go wrong -/
theorem zero_val (b : Nat) (r : List Nat) : pVal b (48 :: r) = .ok (.int 0, r) := by
  have hb : blk (48 :: r) = 48 :: r := blk_no (by simp)
  rw [val_leaf (by rw [hb]; simp) (by rw [hb]; simp), hb]
  unfold pLeaf pNm
  rw [if_neg (by simp), if_neg (by simp), if_neg (by simp), pNd, if_neg (by decide), if_pos rfl]
/-- a told place -/
theorem pos_eq {n : Bool} {a b : Str} {i j : Int} {z : Tr} (ha : Pr a) (hb : Pr b) : gEq n (.tup [.str a, .int i]) (.tup [.str b, .int j]) z = (z = .bl (n ^^ (decide (a = b) && decide (i = j)))) := by
  have f0 : eqF (.tup [.str a, .int i]) (.tup [.str b, .int j]) = none := rfl
  have t : ∀ (a : Str) (i : Int), toD (.tup [.str a, .int i]) = some (.tuple [.str a, .int i]) := fun _ _ => rfl
  have s : ∀ (a : Str) (i : Int), Pr a → SeqAt.shaped (.tuple [.str a, .int i]) = true := fun a i h => by
    show (PyData.canLayAll0 [.str a, .int i] && decide (PyData.depthAll [.str a, .int i] + 1 ≤ 64)) = true
    have c : PyData.canLayAll0 [.str a, .int i] = true := by
      show (PyData.strOk a && (true && true)) = true
      rw [KB.pr_strOk h]; rfl
    have d : PyData.depthAll [.str a, .int i] ≤ 3 := by simp only [PyData.depthAll, PyData.depth]; omega
    rw [c, decide_eq_true (by omega)]; rfl
  have q : PyData.eqv (.tuple [.str a, .int i]) (.tuple [.str b, .int j]) = (decide (a = b) && decide (i = j)) := by
    show PyData.eqvAll [.str a, .int i] [.str b, .int j] = _
    simp only [PyData.eqvAll, PyData.eqv, Bool.and_true]
    rw [Bool.eq_iff_iff]
    simp
  refine propext ⟨fun h => ?_, fun h => .inr ⟨f0, _, _, t a i, t b j, s a i ha, s b j hb, by rw [q]; exact h⟩⟩
  rcases h with ⟨b, e2, h⟩ | ⟨_, d1, d2, e1, e2, _, _, h⟩
  · rw [f0] at e2; cases e2
  · rw [t] at e1 e2; cases e1; cases e2; rw [q] at h; exact h
end KQ
namespace KQ
open PySem PySem.Spec PyProof.Rows L2 TL KB
/-! ### a text in a text: what is read of it, or where it goes wrong -/
def Gd (i : Nat) (T : List Nat) (v : RawV) : Prop := ∀ (b : Nat) (rest : List Nat), i ≤ b → NoD rest → ∃ n, pVal b (T ++ rest) = .ok (v, List.replicate n 32 ++ rest)
def Bad (i : Nat) (T Y : List Nat) : Prop := ∀ (b : Nat) (rest : List Nat), i ≤ b → NoD rest → pVal b (T ++ rest) = .error (.nott (Y ++ rest)) ∨ ∃ v c Y', Y = c :: Y' ∧ isDg c = true ∧ pVal b (T ++ rest) = .ok (v, Y ++ rest)
/-- its first sign closes nothing -/
def Hds (T : List Nat) : Prop := ∃ m c t, T = List.replicate m 32 ++ c :: t ∧ c ≠ 93 ∧ c ≠ 125 ∧ c ≠ 32
theorem Hds.blk {T : List Nat} (h : Hds T) (r : List Nat) : (blk (T ++ r)).head? ≠ some 93 ∧ (blk (T ++ r)).head? ≠ some 125 := by
  obtain ⟨m, c, t, rfl, h1, h2, h3⟩ := h
  rw [List.append_assoc, blk_rep, List.cons_append, blk_no (by simpa using h3)]
  exact ⟨by simpa using h1, by simpa using h2⟩
theorem blk_blk : ∀ r : List Nat, blk (blk r) = blk r
  | [] => rfl
  | c :: r => by
    by_cases h : c = 32
    · rw [blk, if_pos h]; exact blk_blk r
    · rw [blk, if_neg h, blk, if_neg h]
theorem pVal_blk (b : Nat) (r : List Nat) : pVal b (blk r) = pVal b r := by
  cases b with
  | zero => rw [pVal, pVal, blk_blk]
  | succ b => rw [pVal, pVal, blk_blk]
theorem blk_c {c : Nat} {r : List Nat} (h : c ≠ 32) : blk (c :: r) = c :: r := blk_no (by simpa using h)
theorem dg_no {c : Nat} (h : isDg c = true) : c ≠ 32 ∧ c ≠ 44 ∧ c ≠ 93 ∧ c ≠ 125 := by
  unfold isDg at h
  simp at h
  omega
/-- a row, a table: the first member read -/
theorem row_step {b : Nat} {T : List Nat} (h : Hds T) (r : List Nat) : pVal (b + 1) (91 :: (T ++ r)) = (match pVal b (T ++ r) with
    | .error e => .error e
    | .ok q => match pMore (pVal b) 93 (q.2.length + 1) [q.1] (blk q.2) with
      | .error e => .error e
      | .ok q => .ok (.row q.1, q.2)) := by
  rw [pVal, blk_c (by decide), if_pos (by rfl), List.tail_cons]
  unfold pMem
  rw [if_neg (h.blk r).1, pVal_blk]
  all_goals (cases pVal b (T ++ r) <;> rfl)
section
variable {α : Type} {f : List Nat → PR α} {cl : Nat}
theorem more_close {k : Nat} {acc : List α} {r : List Nat} (h : cl ≠ 44) : pMore f cl (k + 1) acc (cl :: r) = .ok (acc, r) := by rw [pMore, if_neg (by simpa using h), pEx_yes]
theorem more_bad {k : Nat} {acc : List α} {c : Nat} {r : List Nat} (h1 : c ≠ 44) (h2 : c ≠ cl) : pMore f cl (k + 1) acc (c :: r) = .error (.nott (c :: r)) := by rw [pMore, if_neg (by simpa using h1), pEx_no (by simpa using h2)]
theorem more_next {k : Nat} {acc : List α} {r : List Nat} {q : α × List Nat} (h : f r = .ok q) : pMore f cl (k + 1) acc (44 :: r) = pMore f cl k (acc ++ [q.1]) (blk q.2) := by rw [pMore, if_pos (by rfl), List.tail_cons, h]
theorem more_err {k : Nat} {acc : List α} {r : List Nat} {e : PErr} (h : f r = .error e) : pMore f cl (k + 1) acc (44 :: r) = .error e := by rw [pMore, if_pos (by rfl), List.tail_cons, h]
end
theorem Hds.rep {T : List Nat} (h : Hds T) (m : Nat) : Hds (List.replicate m 32 ++ T) := by
  obtain ⟨n, c, t, rfl, h1, h2, h3⟩ := h
  exact ⟨m + n, c, t, by rw [← List.append_assoc, List.replicate_append_replicate], h1, h2, h3⟩
theorem Hds.app {T : List Nat} (h : Hds T) (r : List Nat) : Hds (T ++ r) := by
  obtain ⟨n, c, t, rfl, h1, h2, h3⟩ := h
  exact ⟨n, c, t ++ r, by simp, h1, h2, h3⟩
theorem Hds.cons {c : Nat} (t : List Nat) (h1 : c ≠ 93) (h2 : c ≠ 125) (h3 : c ≠ 32) : Hds (c :: t) := ⟨0, c, t, rfl, h1, h2, h3⟩
theorem Gd.rep {i : Nat} {T : List Nat} {v : RawV} (h : Gd i T v) (m k : Nat) : Gd i (List.replicate m 32 ++ T ++ List.replicate k 32) v := fun b rest hb hr => by
  obtain ⟨n, e⟩ := h b (List.replicate k 32 ++ rest) hb (nod_rep k hr)
  refine ⟨n + k, ?_⟩
  rw [List.append_assoc, List.append_assoc, pVal_rep, e, ← List.append_assoc, List.replicate_append_replicate]
theorem Bad.rep {i : Nat} {T Y : List Nat} (h : Bad i T Y) (m k : Nat) : Bad i (List.replicate m 32 ++ T ++ List.replicate k 32) (Y ++ List.replicate k 32) := fun b rest hb hr => by
  rw [List.append_assoc, List.append_assoc, pVal_rep, List.append_assoc]
  rcases h b (List.replicate k 32 ++ rest) hb (nod_rep k hr) with e | ⟨v, c, Y', rfl, hc, e⟩
  · exact .inl e
  · exact .inr ⟨v, c, Y' ++ List.replicate k 32, rfl, hc, by rw [e]⟩
/-- [T] -/
theorem Gd.row {i : Nat} {T : List Nat} {v : RawV} (h : Gd i T v) (ht : Hds T) : Gd (i + 1) (91 :: (T ++ [93])) (.row [v]) := fun b rest hb hr => by
  obtain ⟨b, rfl⟩ : ∃ k, b = k + 1 := ⟨b - 1, by omega⟩
  obtain ⟨n, e⟩ := h b (93 :: rest) (by omega) rfl
  refine ⟨0, ?_⟩
  rw [List.cons_append, List.append_assoc, List.cons_append, List.nil_append, row_step ht, e]
  dsimp only
  rw [blk_rep, blk_c (by decide), more_close (by decide)]
  rfl
theorem Bad.row {i : Nat} {T Y : List Nat} (h : Bad i T Y) (ht : Hds T) : Bad (i + 1) (91 :: (T ++ [93])) (Y ++ [93]) := fun b rest hb hr => by
  obtain ⟨b, rfl⟩ : ∃ k, b = k + 1 := ⟨b - 1, by omega⟩
  left
  rw [List.cons_append, List.append_assoc, List.cons_append, List.nil_append, row_step ht, List.append_assoc, List.cons_append, List.nil_append]
  rcases h b (93 :: rest) (by omega) rfl with e | ⟨v, c, Y', rfl, hc, e⟩
  · rw [e]
  · rw [e]
    dsimp only
    obtain ⟨h1, h2, h3, h4⟩ := dg_no hc
    rw [List.cons_append, blk_c h1, more_bad h2 h3]
/-- [-7,T, 0] -/
theorem seven (b : Nat) {r : List Nat} (h : NoD r) : pVal b (45 :: 55 :: r) = .ok (.int (-7), r) := by
  have e : tl (intS (-7)) = [45, 55] := by unfold intS; rw [tl_int]; decide +kernel
  have := pNm_int (n := -7) (by decide) r h
  rw [e] at this
  rw [val_leaf (by rw [blk_c (by decide)]; simp) (by rw [blk_c (by decide)]; simp), blk_c (by decide)]
  unfold pLeaf
  rw [if_neg (by simp), if_neg (by simp)]
  exact this
theorem sev_hd (r : List Nat) : Hds (45 :: 55 :: r) := .cons _ (by decide) (by decide) (by decide)
theorem Gd.mid {i : Nat} {T : List Nat} {v : RawV} (h : Gd i T v) (m : Nat) : Gd (i + 1) (91 :: 45 :: 55 :: (List.replicate m 32 ++ 44 :: (T ++ [44, 32, 48, 93]))) (.row [.int (-7), v, .int 0]) := fun b rest hb hr => by
  obtain ⟨b, rfl⟩ : ∃ k, b = k + 1 := ⟨b - 1, by omega⟩
  obtain ⟨n, e⟩ := h b (44 :: 32 :: 48 :: 93 :: rest) (by omega) rfl
  refine ⟨0, ?_⟩
  have er : 91 :: 45 :: 55 :: (List.replicate m 32 ++ 44 :: (T ++ [44, 32, 48, 93])) ++ rest = 91 :: ((45 :: 55 :: []) ++ (List.replicate m 32 ++ 44 :: (T ++ 44 :: 32 :: 48 :: 93 :: rest))) := by simp
  rw [er, row_step (sev_hd [])]
  rw [show ([45, 55] ++ (List.replicate m 32 ++ 44 :: (T ++ 44 :: 32 :: 48 :: 93 :: rest))) = 45 :: 55 :: (List.replicate m 32 ++ 44 :: (T ++ 44 :: 32 :: 48 :: 93 :: rest)) from rfl, seven b (nod_rep (r := 44 :: (T ++ 44 :: 32 :: 48 :: 93 :: rest)) m rfl)]
  dsimp only
  rw [blk_rep, blk_c (by decide)]
  obtain ⟨k, hk⟩ : ∃ k, (List.replicate m 32 ++ 44 :: (T ++ 44 :: 32 :: 48 :: 93 :: rest)).length = k + 3 := ⟨(List.replicate m 32 ++ 44 :: (T ++ 44 :: 32 :: 48 :: 93 :: rest)).length - 3, by simp only [List.length_append, List.length_cons]; omega⟩
  rw [hk, more_next e, blk_rep, blk_c (by decide), more_next (q := (.int 0, 93 :: rest)) (by rw [← pVal_blk, blk, if_pos rfl, blk_c (by decide)]; exact zero_val b _), blk_c (by decide), more_close (by decide)]
  rfl
theorem Bad.mid {i : Nat} {T Y : List Nat} (h : Bad i T Y) (m : Nat) : Bad (i + 1) (91 :: 45 :: 55 :: (List.replicate m 32 ++ 44 :: (T ++ [44, 32, 48, 93]))) (Y ++ [44, 32, 48, 93]) := fun b rest hb hr => by
  obtain ⟨b, rfl⟩ : ∃ k, b = k + 1 := ⟨b - 1, by omega⟩
  left
  have er : 91 :: 45 :: 55 :: (List.replicate m 32 ++ 44 :: (T ++ [44, 32, 48, 93])) ++ rest = 91 :: ((45 :: 55 :: []) ++ (List.replicate m 32 ++ 44 :: (T ++ 44 :: 32 :: 48 :: 93 :: rest))) := by simp
  rw [er, row_step (sev_hd [])]
  rw [show ([45, 55] ++ (List.replicate m 32 ++ 44 :: (T ++ 44 :: 32 :: 48 :: 93 :: rest))) = 45 :: 55 :: (List.replicate m 32 ++ 44 :: (T ++ 44 :: 32 :: 48 :: 93 :: rest)) from rfl, seven b (nod_rep (r := 44 :: (T ++ 44 :: 32 :: 48 :: 93 :: rest)) m rfl)]
  dsimp only
  rw [blk_rep, blk_c (by decide), List.append_assoc]
  obtain ⟨k, hk⟩ : ∃ k, (List.replicate m 32 ++ 44 :: (T ++ 44 :: 32 :: 48 :: 93 :: rest)).length = k + 3 := ⟨(List.replicate m 32 ++ 44 :: (T ++ 44 :: 32 :: 48 :: 93 :: rest)).length - 3, by simp only [List.length_append, List.length_cons]; omega⟩
  rw [hk]
  rcases h b (44 :: 32 :: 48 :: 93 :: rest) (by omega) rfl with e | ⟨v, c, Y', rfl, hc, e⟩
  · rw [more_err e]; rfl
  · obtain ⟨h1, h2, h3, h4⟩ := dg_no hc
    rw [more_next e]
    dsimp only
    rw [show blk (c :: Y' ++ 44 :: 32 :: 48 :: 93 :: rest) = c :: (Y' ++ 44 :: 32 :: 48 :: 93 :: rest) from blk_c h1, more_bad h2 h3]
    rfl
/-- {"1":T} -/
theorem one_step {b : Nat} (r : List Nat) : pVal (b + 1) (123 :: 34 :: 49 :: 34 :: 58 :: r) = (match pVal b r with
    | .error e => .error e
    | .ok q => match pMore (pPair (pVal b)) 125 (q.2.length + 1) [(mkS [49], q.1)] (blk q.2) with
      | .error e => .error e
      | .ok q => .ok (.tab (q.1.map (·.1)) (q.1.map (·.2)), q.2)) := by
  rw [pVal, blk_c (by decide), if_neg (by simp), if_pos (by rfl), List.tail_cons]
  unfold pMem
  rw [blk_c (by decide), if_neg (by simp)]
  have e : pPair (pVal b) (34 :: 49 :: 34 :: 58 :: r) = (match pVal b r with
      | .error e => .error e
      | .ok q => .ok ((mkS [49], q.1), q.2)) := by
    unfold pPair
    rw [blk_c (by decide), show pStr (34 :: 49 :: 34 :: 58 :: r) = .ok ([49], 58 :: r) from pStr_esc [49] (58 :: r)]
    dsimp only
    rw [blk_c (by decide), pEx_yes]
    try dsimp only
    all_goals (cases pVal b r <;> rfl)
  rw [e]
  all_goals (cases pVal b r <;> rfl)
theorem Gd.tab {i : Nat} {T : List Nat} {v : RawV} (h : Gd i T v) (m k : Nat) : Gd (i + 1) (123 :: 34 :: 49 :: 34 :: 58 :: (List.replicate m 32 ++ (T ++ (List.replicate k 32 ++ [125])))) (.tab [mkS [49]] [v]) := fun b rest hb hr => by
  obtain ⟨b, rfl⟩ : ∃ k, b = k + 1 := ⟨b - 1, by omega⟩
  obtain ⟨n, e⟩ := h b (List.replicate k 32 ++ 125 :: rest) (by omega) (nod_rep k rfl)
  refine ⟨0, ?_⟩
  have er : 123 :: 34 :: 49 :: 34 :: 58 :: (List.replicate m 32 ++ (T ++ (List.replicate k 32 ++ [125]))) ++ rest = 123 :: 34 :: 49 :: 34 :: 58 :: (List.replicate m 32 ++ (T ++ (List.replicate k 32 ++ 125 :: rest))) := by simp
  rw [er, one_step, pVal_rep, e]
  dsimp only
  rw [blk_rep, blk_rep, blk_c (by decide), more_close (by decide)]
  rfl
theorem Bad.tab {i : Nat} {T Y : List Nat} (h : Bad i T Y) (m k : Nat) : Bad (i + 1) (123 :: 34 :: 49 :: 34 :: 58 :: (List.replicate m 32 ++ (T ++ (List.replicate k 32 ++ [125])))) (Y ++ (List.replicate k 32 ++ [125])) := fun b rest hb hr => by
  obtain ⟨b, rfl⟩ : ∃ k, b = k + 1 := ⟨b - 1, by omega⟩
  left
  have er : 123 :: 34 :: 49 :: 34 :: 58 :: (List.replicate m 32 ++ (T ++ (List.replicate k 32 ++ [125]))) ++ rest = 123 :: 34 :: 49 :: 34 :: 58 :: (List.replicate m 32 ++ (T ++ (List.replicate k 32 ++ 125 :: rest))) := by simp
  have ey : Y ++ (List.replicate k 32 ++ [125]) ++ rest = Y ++ (List.replicate k 32 ++ 125 :: rest) := by simp
  rw [er, ey, one_step, pVal_rep]
  rcases h b (List.replicate k 32 ++ 125 :: rest) (by omega) (nod_rep k rfl) with e | ⟨v, c, Y', rfl, hc, e⟩
  · rw [e]
  · rw [e]
    dsimp only
    obtain ⟨h1, h2, h3, h4⟩ := dg_no hc
    rw [List.cons_append, blk_c h1, more_bad h2 h4]
/-- the whole text -/
theorem Gd.text {i : Nat} {T : List Nat} {v : RawV} (h : Gd i T v) (hi : i ≤ 60) : pText T = .ok v := by
  obtain ⟨n, e⟩ := h 60 [] hi rfl
  rw [List.append_nil, List.append_nil] at e
  unfold pText
  rw [e]
  dsimp only
  rw [blk_nil]
  rfl
theorem Bad.text {i : Nat} {T Y : List Nat} (h : Bad i T Y) (hi : i ≤ 60) : pText T = .error (.nott Y) := by
  have e := h 60 [] hi rfl
  rw [List.append_nil, List.append_nil] at e
  unfold pText
  rcases e with e | ⟨v, c, Y', rfl, hc, e⟩
  · rw [e]
  · rw [e]
    dsimp only
    rw [blk_c (dg_no hc).1, if_neg (by simp)]
/-! ### figures with a sign -/
/-! ### what stands around -/
structure Cx4 (i : Nat) (A B : List Nat) (f : RawV → RawV) : Prop where
  good : ∀ X v, Gd 0 X v → Hds X → Gd i (A ++ (X ++ B)) (f v)
  bad : ∀ X Y, Bad 0 X Y → Hds X → Bad i (A ++ (X ++ B)) (Y ++ B)
  hds : ∀ X, Hds X → Hds (A ++ (X ++ B))
theorem Cx4.nil : Cx4 0 [] [] id := ⟨fun X v h _ => by simpa using h, fun X Y h _ => by simpa using h, fun X h => by simpa using h⟩
theorem Gd.le {i j : Nat} {T : List Nat} {v : RawV} (h : Gd i T v) (l : i ≤ j) : Gd j T v := fun b rest hb hr => h b rest (Nat.le_trans l hb) hr
theorem Bad.le {i j : Nat} {T Y : List Nat} (h : Bad i T Y) (l : i ≤ j) : Bad j T Y := fun b rest hb hr => h b rest (Nat.le_trans l hb) hr
def Stp4 (A B : List Nat) (v : RawV) (A' B' : List Nat) (v' : RawV) : Prop := ∃ m ≤ 2,
  (A' = List.replicate m 32 ++ 91 :: A ∧ B' = B ++ [93] ∧ v' = .row [v]) ∨
  (A' = 91 :: 45 :: 55 :: (List.replicate m 32 ++ 44 :: A) ∧ B' = B ++ ([44, 32, 48, 93] ++ List.replicate m 32) ∧ v' = .row [.int (-7), v, .int 0]) ∨
  (A' = 123 :: 34 :: 49 :: 34 :: 58 :: (List.replicate m 32 ++ A) ∧ B' = List.replicate m 32 ++ (B ++ [125]) ∧ v' = .tab [mkS [49]] [v]) ∨
  (A' = List.replicate m 32 ++ A ∧ B' = B ++ List.replicate m 32 ∧ v' = v)
theorem Cx4.step {i : Nat} {A B A' B' : List Nat} {f : RawV → RawV} {v v' : RawV} (h : Cx4 i A B f) (s : Stp4 A B (f v) A' B' v') : ∃ f', v' = f' v ∧ Cx4 (i + 1) A' B' f' := by
  obtain ⟨m, hm, s⟩ := s
  rcases s with ⟨rfl, rfl, rfl⟩ | ⟨rfl, rfl, rfl⟩ | ⟨rfl, rfl, rfl⟩ | ⟨rfl, rfl, rfl⟩
  · refine ⟨fun v => .row [f v], rfl, fun X v g hx => ?_, fun X Y g hx => ?_, fun X hx => ?_⟩
    · have := ((h.good X v g hx).row (h.hds X hx)).rep m 0
      simpa using this
    · have := ((h.bad X Y g hx).row (h.hds X hx)).rep m 0
      simpa using this
    · have := (Hds.cons (A ++ (X ++ (B ++ [93]))) (c := 91) (by decide) (by decide) (by decide)).rep m
      simpa using this
  · refine ⟨fun v => .row [.int (-7), f v, .int 0], rfl, fun X v g hx => ?_, fun X Y g hx => ?_, fun X hx => .cons _ (by decide) (by decide) (by decide)⟩
    · have := ((h.good X v g hx).mid m).rep 0 m
      simpa using this
    · have := ((h.bad X Y g hx).mid m).rep 0 m
      simpa using this
  · refine ⟨fun v => .tab [mkS [49]] [f v], rfl, fun X v g hx => ?_, fun X Y g hx => ?_, fun X hx => .cons _ (by decide) (by decide) (by decide)⟩
    · have g2 : Gd 0 (X ++ List.replicate m 32) v := by simpa using g.rep 0 m
      have := (h.good _ v g2 (hx.app _)).tab m 0
      simpa using this
    · have g2 : Bad 0 (X ++ List.replicate m 32) (Y ++ List.replicate m 32) := by simpa using g.rep 0 m
      have := (h.bad _ _ g2 (hx.app _)).tab m 0
      simpa using this
  · refine ⟨f, rfl, fun X v g hx => ?_, fun X Y g hx => ?_, fun X hx => ?_⟩
    · have := ((h.good X v g hx).rep m m).le (Nat.le_succ i)
      simpa using this
    · have := ((h.bad X Y g hx).rep m m).le (Nat.le_succ i)
      simpa using this
    · have := ((h.hds X hx).app (List.replicate m 32)).rep m
      simpa using this
theorem Stp4.len {A B A' B' : List Nat} {v v' : RawV} (s : Stp4 A B v A' B' v') : A'.length ≤ A.length + 8 ∧ B'.length ≤ B.length + 8 := by
  obtain ⟨m, hm, s⟩ := s
  rcases s with ⟨rfl, rfl, _⟩ | ⟨rfl, rfl, _⟩ | ⟨rfl, rfl, _⟩ | ⟨rfl, rfl, _⟩ <;> simp only [List.length_append, List.length_cons, List.length_replicate, List.length_nil] <;> omega
theorem Stp4.pr {A B A' B' : List Nat} {v v' : RawV} (s : Stp4 A B v A' B' v') (ha : PrL A) (hb : PrL B) : PrL A' ∧ PrL B' := by
  obtain ⟨m, hm, s⟩ := s
  have c1 : ∀ (c : Nat) (l : List Nat), (32 ≤ c ∧ c < 127) → PrL l → PrL (c :: l) := fun c l h hl => prL_app (prL_one h) hl
  have r := prL_rep m
  rcases s with ⟨rfl, rfl, _⟩ | ⟨rfl, rfl, _⟩ | ⟨rfl, rfl, _⟩ | ⟨rfl, rfl, _⟩
  · exact ⟨prL_app r (c1 _ _ (by decide) ha), prL_app hb (prL_one (by decide))⟩
  · exact ⟨c1 _ _ (by decide) (c1 _ _ (by decide) (c1 _ _ (by decide) (prL_app r (c1 _ _ (by decide) ha)))), prL_app hb (prL_app (by unfold PrL; decide) r)⟩
  · exact ⟨c1 _ _ (by decide) (c1 _ _ (by decide) (c1 _ _ (by decide) (c1 _ _ (by decide) (c1 _ _ (by decide) (prL_app r ha))))), prL_app r (prL_app hb (prL_one (by decide)))⟩
  · exact ⟨prL_app r ha, prL_app hb r⟩
end KQ
namespace KQ
open PySem PySem.Spec PyProof.Rows L2 TL KB
/-! ### rows and tables within one another -/
/-- where the inner bracket stands, and what stands from it on -/
def inr : Nat → Option (Nat × List Nat)
  | 1 => some (1, [91, 93, 44])
  | 3 => some (5, [123, 125, 44, 34, 97, 34, 58])
  | _ => none
/-- what closes a member, or does not -/
def Fin (cl : Nat) (v : RawV) (mk : RawV → RawV) : PR RawV → PR RawV
  | .error e => .error e
  | .ok (v, r) => match blk r with
    | [] => .error (.nott [])
    | c :: r => if c = cl then .ok (mk v, r) else .error (.nott (c :: r))
/-! ### levels -/
/-! ### levels as trees -/
end KQ
namespace KQ
open PySem PySem.Spec PyProof.Rows L2 TL KB
/-! ### steps that do nothing -/
section
variable {rs : List (Str × Cnd)}
structure Idl (rs : List (Str × Cnd)) (xs ys : List Stp) : Prop where
  car : carN xs = carN ys
  out : ∀ cy i v, (doneV rs cy xs i v).2 = (doneV rs cy ys i v).2
  last : ∀ cy i v, (doneV rs cy ys i v).2 = .endd → (doneV rs cy xs i v).1.getLastD v = (doneV rs cy ys i v).1.getLastD v
theorem Idl.mid {xs ys : List Stp} (h : Idl rs xs ys) (a b : List Stp) (cy : Nat → Val → Option Val) (i : Nat) (v : Val) : (doneV rs cy (a ++ xs ++ b) i v).2 = (doneV rs cy (a ++ ys ++ b) i v).2 := by
  rw [List.append_assoc, List.append_assoc]
  by_cases ha : (doneV rs cy a i v).2 = .endd
  · rw [done_end a i v ha, done_end a i v ha]
    dsimp only
    generalize (doneV rs cy a i v).1.getLastD v = u
    by_cases hx : (doneV rs cy ys (i + carN a) u).2 = .endd
    · rw [done_end ys _ u hx, done_end xs _ u (by rw [h.out]; exact hx), h.car, h.last _ _ _ hx]
    · rw [done_stop ys _ u hx, done_stop xs _ u (by rw [h.out]; exact hx), h.out]
  · rw [done_stop a i v ha, done_stop a i v ha]
/-! the seven forms -/
end
end KQ
namespace KQ
open PySem PySem.Spec PyProof.Rows L2 TL KB
/-! ### what is read of a beginning stays, whatever follows -/
def PErr.app (y : List Nat) : PErr → PErr
  | .nott r => .nott (r ++ y)
  | .deep r => .deep (r ++ y)
def Beh {α : Type} (x : PR α) (y : List Nat) : Prop := (∀ q, x = .ok q → q.2.length ≤ y.length) ∧ ∀ e, x = .error e → e.rest.length ≤ y.length
theorem Suf.beh {α : Type} {x : PR α} {y : List Nat} (h : Suf x y) : Beh x y := ⟨fun q e => (h.1 q e).length_le, fun q e => (h.2 q e).length_le⟩
structure AtP {α : Type} (N : α → Bool) (f : List Nat → PR α) (u : List Nat) : Prop where
  er : ∀ y e, f u = .error e → e.rest ≠ [] → f (u ++ y) = .error (e.app y)
  ee : ∀ y e, f u = .error e → e.rest = [] → e = .nott [] ∧ Beh (f (u ++ y)) y
  st : ∀ y q, f u = .ok q → (q.2 ≠ [] ∨ N q.1 = false) → f (u ++ y) = .ok (q.1, q.2 ++ y)
  oe : ∀ y q, f u = .ok q → q.2 = [] → Beh (f (u ++ y)) y
def Prg {α : Type} (N : α → Bool) (f : List Nat → PR α) : Prop := ∀ u, AtP N f u
def SufF {α : Type} (f : List Nat → PR α) : Prop := ∀ r, Suf (f r) r
theorem blk_app : ∀ (u y : List Nat), blk u ≠ [] → blk (u ++ y) = blk u ++ y
  | [], y, h => (h rfl).elim
  | c :: u, y, h => by
    rw [List.cons_append, blk, blk]
    by_cases e : c = 32
    · rw [if_pos e, if_pos e]
      rw [blk, if_pos e] at h
      exact blk_app u y h
    · rw [if_neg e, if_neg e]; rfl
theorem blk_app0 : ∀ (u y : List Nat), blk u = [] → blk (u ++ y) = blk y
  | [], y, h => rfl
  | c :: u, y, h => by
    rw [List.cons_append, blk]
    rw [blk] at h
    by_cases e : c = 32
    · rw [if_pos e] at h ⊢
      exact blk_app0 u y h
    · rw [if_neg e] at h; cases h
theorem tail_app {u y : List Nat} (h : u ≠ []) : (u ++ y).tail = u.tail ++ y := by cases u with
  | nil => exact (h rfl).elim
  | cons c u => rfl
/-- at the end: what a reader says of nothing -/
theorem end_rest {α : Type} {f : List Nat → PR α} (s : SufF f) {e : PErr} (h : f [] = .error e) : e.rest = [] := List.suffix_nil.mp ((s []).2 e h)
theorem end_ok {α : Type} {f : List Nat → PR α} (s : SufF f) {q : α × List Nat} (h : f [] = .ok q) : q.2 = [] := List.suffix_nil.mp ((s []).1 q h)
/-- one reader behind another -/
def seqP {α β : Type} (f : List Nat → PR α) (g : α → List Nat → PR β) (r : List Nat) : PR β := match f r with
  | .error e => .error e
  | .ok q => g q.1 q.2
theorem AtP.seq {α β : Type} {N : α → Bool} {M : β → Bool} {f : List Nat → PR α} {g : α → List Nat → PR β} {u : List Nat} (hf : AtP N f u) (hg : ∀ a r, f u = .ok (a, r) → AtP M (g a) r) (sg : ∀ a, SufF (g a))
    (hn : ∀ a q, N a = true → g a [] = .ok q → M q.1 = true) : AtP M (seqP f g) u := by
  have beh : ∀ y, Beh (f (u ++ y)) y → Beh (seqP f g (u ++ y)) y := fun y h => by
    unfold seqP
    cases hx : f (u ++ y) with
    | error e => exact ⟨fun q e => (by cases e), fun q e' => by cases e'; exact h.2 _ hx⟩
    | ok q => exact ⟨fun q' e => Nat.le_trans ((sg q.1 q.2).1 q' e).length_le (h.1 _ hx), fun q' e => Nat.le_trans ((sg q.1 q.2).2 q' e).length_le (h.1 _ hx)⟩
  have go : ∀ y a r, f u = .ok (a, r) → (r ≠ [] ∨ N a = false) → seqP f g u = g a r ∧ seqP f g (u ++ y) = g a (r ++ y) := fun y a r h1 h2 => by
    have := hf.st y _ h1 h2
    unfold seqP
    rw [h1, this]; exact ⟨rfl, rfl⟩
  refine ⟨fun y e h1 h2 => ?_, fun y e h1 h2 => ?_, fun y q h1 h2 => ?_, fun y q h1 h2 => ?_⟩
  · cases hx : f u with
    | error e' =>
      have : e' = e := by unfold seqP at h1; rw [hx] at h1; cases h1; rfl
      subst this
      unfold seqP; rw [hf.er y _ hx h2]
    | ok q =>
      by_cases hq : q.2 ≠ [] ∨ N q.1 = false
      · obtain ⟨e1, e2⟩ := go y q.1 q.2 hx hq
        rw [e2]; rw [e1] at h1; exact (hg q.1 q.2 hx).er y e h1 h2
      · have hq2 : q.2 = [] := Decidable.byContradiction fun h => hq (.inl h)
        unfold seqP at h1; rw [hx] at h1
        have h1 : g q.1 q.2 = .error e := h1
        rw [hq2] at h1
        exact (h2 (end_rest (sg q.1) h1)).elim
  · cases hx : f u with
    | error e' =>
      have : e' = e := by unfold seqP at h1; rw [hx] at h1; cases h1; rfl
      subst this
      obtain ⟨z, b⟩ := hf.ee y _ hx h2
      exact ⟨z, beh y b⟩
    | ok q =>
      by_cases hq : q.2 ≠ [] ∨ N q.1 = false
      · obtain ⟨e1, e2⟩ := go y q.1 q.2 hx hq
        rw [e2]; rw [e1] at h1; exact (hg q.1 q.2 hx).ee y e h1 h2
      · have hq2 : q.2 = [] := Decidable.byContradiction fun h => hq (.inl h)
        have h1' : g q.1 q.2 = .error e := by unfold seqP at h1; rw [hx] at h1; exact h1
        exact ⟨((hg q.1 q.2 hx).ee [] e h1' h2).1, beh y (hf.oe y q hx hq2)⟩
  · cases hx : f u with
    | error e' => unfold seqP at h1; rw [hx] at h1; cases h1
    | ok q' =>
      by_cases hq : q'.2 ≠ [] ∨ N q'.1 = false
      · obtain ⟨e1, e2⟩ := go y q'.1 q'.2 hx hq
        rw [e2]; rw [e1] at h1; exact (hg q'.1 q'.2 hx).st y q h1 h2
      · have hq2 : q'.2 = [] := Decidable.byContradiction fun h => hq (.inl h)
        have hq3 : N q'.1 = true := by cases h : N q'.1 with
          | true => rfl
          | false => exact (hq (.inr h)).elim
        have h1' : g q'.1 q'.2 = .ok q := by unfold seqP at h1; rw [hx] at h1; exact h1
        rw [hq2] at h1'
        rcases h2 with h2 | h2
        · exact (h2 (end_ok (sg q'.1) h1')).elim
        · rw [hn q'.1 q hq3 h1'] at h2; cases h2
  · cases hx : f u with
    | error e' => unfold seqP at h1; rw [hx] at h1; cases h1
    | ok q' =>
      by_cases hq : q'.2 ≠ [] ∨ N q'.1 = false
      · obtain ⟨e1, e2⟩ := go y q'.1 q'.2 hx hq
        rw [e2]; rw [e1] at h1; exact (hg q'.1 q'.2 hx).oe y q h1 h2
      · have hq2 : q'.2 = [] := Decidable.byContradiction fun h => hq (.inl h)
        exact beh y (hf.oe y q' hx hq2)
theorem Prg.seq {α β : Type} {N : α → Bool} {M : β → Bool} {f : List Nat → PR α} {g : α → List Nat → PR β} (hf : Prg N f) (hg : ∀ a, Prg M (g a)) (sg : ∀ a, SufF (g a))
    (hn : ∀ a q, N a = true → g a [] = .ok q → M q.1 = true) : Prg M (seqP f g) := fun u => (hf u).seq (fun a r _ => hg a r) sg hn
theorem AtP.blk {α : Type} {N : α → Bool} {f : List Nat → PR α} {u : List Nat} (p : AtP N f (blk u)) (s : SufF f) (h0 : ∀ q, f [] = .ok q → N q.1 = true) : AtP N (fun r => f (KQ.blk r)) u := by
  by_cases hb : KQ.blk u = []
  · rw [hb] at p
    have b0 : ∀ y, Beh (f (KQ.blk (u ++ y))) y := fun y => by rw [blk_app0 u y hb]; exact ((s _).up (blk_suf y)).beh
    refine ⟨fun y e h1 h2 => ?_, fun y e h1 h2 => ⟨?_, b0 y⟩, fun y q h1 h2 => ?_, fun y q h1 h2 => b0 y⟩
    all_goals rw [hb] at h1
    · exact (h2 (end_rest s h1)).elim
    · exact (p.ee [] e h1 h2).1
    · rcases h2 with h2 | h2
      · exact (h2 (end_ok s h1)).elim
      · rw [h0 q h1] at h2; cases h2
  · refine ⟨fun y e h1 h2 => ?_, fun y e h1 h2 => ?_, fun y q h1 h2 => ?_, fun y q h1 h2 => ?_⟩
    all_goals rw [blk_app u y hb]
    · exact p.er y e h1 h2
    · exact p.ee y e h1 h2
    · exact p.st y q h1 h2
    · exact p.oe y q h1 h2
theorem Prg.blk {α : Type} {N : α → Bool} {f : List Nat → PR α} (p : Prg N f) (s : SufF f) (h0 : ∀ q, f [] = .ok q → N q.1 = true) : Prg N (fun r => f (KQ.blk r)) := fun u => (p (KQ.blk u)).blk s h0
/-! the readers, one after another -/
def lft (x : Except PErr (List Nat)) : PR Unit := match x with
  | .error e => .error e
  | .ok r => .ok ((), r)
theorem AtP.red {α β : Type} {N : α → Bool} {M : β → Bool} {f : List Nat → PR β} {h : List Nat → PR α} {g : α → β} {u t : List Nat} (e : ∀ y, f (u ++ y) = mapR g (h (t ++ y))) (p : AtP N h t) (hn : ∀ a, M (g a) = N a) : AtP M f u := by
  have e0 := e []
  rw [List.append_nil, List.append_nil] at e0
  have beh : ∀ y, Beh (h (t ++ y)) y → Beh (f (u ++ y)) y := fun y b => by
    rw [e y]
    cases hx : h (t ++ y) with
    | error e => exact ⟨fun q e => (by cases e), fun q e' => (by cases e'; exact b.2 _ hx)⟩
    | ok q => exact ⟨fun q e => (by cases e; exact b.1 _ hx), fun q e => (by cases e)⟩
  obtain ⟨p1, p2, p3, p4⟩ := p
  refine ⟨fun y e1 h1 h2 => ?_, fun y e1 h1 h2 => ?_, fun y q h1 h2 => ?_, fun y q h1 h2 => ?_⟩
  all_goals rw [e0] at h1
  all_goals cases hx : h t with
    | error e' => ?_
    | ok q' => ?_
  all_goals rw [hx] at h1
  all_goals cases h1
  · rw [e y, p1 y _ hx h2]; rfl
  · exact ⟨(p2 y _ hx h2).1, beh y (p2 y _ hx h2).2⟩
  · rw [e y, p3 y _ hx (h2.imp id fun h => by rw [← hn]; exact h)]; rfl
  · exact beh y (p4 y _ hx h2)
theorem AtP.deep {α : Type} {N : α → Bool} {f : List Nat → PR α} {u t : List Nat} (e : ∀ y, f (u ++ y) = .error (.deep (t ++ y))) (ht : t ≠ []) : AtP N f u := by
  have e0 := e []
  rw [List.append_nil, List.append_nil] at e0
  exact ⟨fun y e1 h1 h2 => (by rw [e0] at h1; cases h1; exact e y), fun y e1 h1 h2 => (by rw [e0] at h1; cases h1; exact (ht h2).elim), fun y q h1 h2 => (by rw [e0] at h1; cases h1), fun y q h1 h2 => (by rw [e0] at h1; cases h1)⟩
theorem AtP.eoe {α : Type} {N : α → Bool} {f : List Nat → PR α} {u : List Nat} (e : f u = .error (.nott [])) (b : ∀ y, Beh (f (u ++ y)) y) : AtP N f u :=
  ⟨fun y e1 h1 h2 => (by rw [e] at h1; cases h1; exact (h2 rfl).elim), fun y e1 h1 h2 => (by rw [e] at h1; cases h1; exact ⟨rfl, b y⟩), fun y q h1 h2 => (by rw [e] at h1; cases h1), fun y q h1 h2 => (by rw [e] at h1; cases h1)⟩
theorem AtP.nil {α : Type} {N : α → Bool} {f : List Nat → PR α} (s : SufF f) (e : f [] = .error (.nott [])) : AtP N f [] := AtP.eoe e fun y => (s y).beh
theorem Prg.eq {α : Type} {N : α → Bool} {f g : List Nat → PR α} (p : Prg N f) (h : ∀ r, g r = f r) : Prg N g := by rw [funext h]; exact p
theorem Prg.map {α β : Type} {N : α → Bool} {M : β → Bool} {g : α → β} {f : List Nat → PR α} (p : Prg N f) (hn : ∀ a, M (g a) = N a) : Prg M (fun r => mapR g (f r)) := fun u => AtP.red (g := g) (h := f) (t := u) (fun y => rfl) (p u) hn
theorem AtP.tail {α : Type} {N : α → Bool} {f : List Nat → PR α} (p : Prg N f) {u : List Nat} (hu : u ≠ []) : AtP N (fun r => f r.tail) u := by
  refine AtP.red (g := id) (h := f) (t := u.tail) (fun y => ?_) (p _) (fun _ => rfl)
  rw [tail_app hu]; cases f (u.tail ++ y) <;> rfl
section
variable {α : Type} {f : List Nat → PR α} {cl : Nat} {N : α → Bool}
end
theorem pVal_nil : ∀ (d : Nat), pVal d [] = .error (.nott [])
  | 0 => rfl
  | d + 1 => rfl
end KQ
namespace KQ
open PySem PySem.Spec PyProof.Rows L2 TL KB
/-! ### whole texts: where they are wrong, and their beginnings -/
/-! a number read at the end stays a number -/
/-! only blanks lack -/
/-! a number cut in the middle -/
end KQ
namespace KQ
open PySem PySem.Spec PyProof.Rows L2 TL KB
/-! ### the automaton over the signs -/
inductive Mo where
  | value
  | first (b : Bool)
  | name
  | colon
  | after
  | str (n : Bool)
  | esc (n : Bool)
  | word (w : List Nat)
  | minus
  | figs (n : Nat)
  | deep
/-- the bracket that closes -/
def clB (b : Bool) : Nat := if b = true then 125 else 93
structure Sg where
  mo : Mo
  st : List Bool
  ok : Bool
def stAfter (st : List Bool) (c : Nat) : Sg :=
  if c = 32 then ⟨.after, st, true⟩ else match st with
    | [] => ⟨.after, [], false⟩
    | b :: s => if c = 44 then ⟨if b = true then .name else .value, b :: s, true⟩ else if c = clB b then ⟨.after, s, true⟩ else ⟨.after, b :: s, false⟩
def stBegin (st : List Bool) (c : Nat) : Sg :=
  if c = 91 ∨ c = 123 then (if st.length = 60 then ⟨.deep, st, false⟩ else ⟨.first (decide (c = 123)), decide (c = 123) :: st, true⟩)
  else if c = 34 then ⟨.str false, st, true⟩
  else if c = 110 then ⟨.word [117, 108, 108], st, true⟩
  else if c = 116 then ⟨.word [114, 117, 101], st, true⟩
  else if c = 102 then ⟨.word [97, 108, 115, 101], st, true⟩
  else if c = 45 then ⟨.minus, st, true⟩
  else if c = 48 then ⟨.after, st, true⟩
  else ⟨.figs 1, st, decide (49 ≤ c ∧ c ≤ 57)⟩
def stp16 (mo : Mo) (st : List Bool) (c : Nat) : Sg := match mo with
  | .esc n => ⟨.str n, st, decide (c = 34 ∨ c = 92)⟩
  | .str n => if c = 92 then ⟨.esc n, st, true⟩ else if c = 34 then ⟨if n = true then .colon else .after, st, true⟩ else ⟨.str n, st, true⟩
  | .word w => if w.head? = some c then ⟨if w.tail = [] then .after else .word w.tail, st, true⟩ else ⟨.word w, st, false⟩
  | .minus => ⟨.figs 1, st, decide (49 ≤ c ∧ c ≤ 57)⟩
  | .figs n => if isDg c = true then ⟨.figs (n + 1), st, decide (n + 1 ≤ 30)⟩ else stAfter st c
  | .after => stAfter st c
  | .colon => if c = 32 then ⟨.colon, st, true⟩ else ⟨.value, st, decide (c = 58)⟩
  | .first b => if c = 32 then ⟨.first b, st, true⟩ else if c = clB b then stAfter st c else if b = true then ⟨.str true, st, decide (c = 34)⟩ else stBegin st c
  | .name => if c = 32 then ⟨.name, st, true⟩ else ⟨.str true, st, decide (c = 34)⟩
  | .value => if c = 32 then ⟨.value, st, true⟩ else stBegin st c
  | .deep => ⟨.deep, st, false⟩
abbrev R16 := Except PErr Unit
def isEnd : Mo → Bool
  | .after => true
  | .figs _ => true
  | _ => false
def isDeep : Mo → Bool
  | .deep => true
  | _ => false
def run16 : Mo → List Bool → List Nat → R16
  | mo, st, [] => if st = [] ∧ isEnd mo = true then .ok () else .error (.nott [])
  | mo, st, c :: r => if (stp16 mo st c).ok = true then run16 (stp16 mo st c).mo (stp16 mo st c).st r else .error (if isDeep (stp16 mo st c).mo = true then .deep (c :: r) else .nott (c :: r))
/-- what a reader leaves, the automaton takes up -/
def go16 {α : Type} (x : PR α) (k : List Nat → R16) : R16 := match x with
  | .error e => .error e
  | .ok q => k q.2
theorem run_blk {mo : Mo} {st : List Bool} (h : stp16 mo st 32 = ⟨mo, st, true⟩) : ∀ r, run16 mo st r = run16 mo st (blk r)
  | [] => rfl
  | c :: r => by
    rw [blk]
    by_cases e : c = 32
    · subst e
      rw [if_pos rfl, run16, h, if_pos rfl]
      exact run_blk h r
    · rw [if_neg e]
theorem run_pEs {st : List Bool} : ∀ (w r : List Nat), w ≠ [] → run16 (.word w) st r = go16 (lft (pEs w r)) (run16 .after st)
  | [], r, h => (h rfl).elim
  | x :: w, [], _ => by rw [run16, if_neg (fun h => by cases h.2)]; rfl
  | x :: w, c :: r, _ => by
    rw [run16, pEs, pEx]
    by_cases e : c = x
    · subst e
      rw [if_pos rfl]
      have hs : stp16 (.word (c :: w)) st c = ⟨if w = [] then .after else .word w, st, true⟩ := by
        show (if (c :: w).head? = some c then _ else _) = _
        rw [if_pos (show (c :: w : List Nat).head? = some c from rfl)]; rfl
      rw [hs, if_pos rfl]
      dsimp only
      cases w with
      | nil => rfl
      | cons y w => rw [if_neg (by simp)]; exact run_pEs (y :: w) r (by simp)
    · rw [if_neg e]
      have hs : stp16 (.word (x :: w)) st c = ⟨.word (x :: w), st, false⟩ := by
        show (if (x :: w).head? = some c then _ else _) = _
        rw [if_neg (fun h => e (by injection h with h; exact h.symm))]
      rw [hs, if_neg Bool.false_ne_true]; rfl
theorem run_pSt {n : Bool} {st : List Bool} : ∀ (m : Nat) (r : List Nat), r.length ≤ m → run16 (.str n) st r = go16 (pSt r) (run16 (if n = true then .colon else .after) st)
  | m, [], _ => by rw [run16, if_neg (fun h => by cases h.2)]; rfl
  | 0, c :: r, h => by cases h
  | m + 1, c :: r, h => by
    have h : r.length ≤ m := by simpa using h
    rw [run16, pSt.eq_def]
    dsimp only
    by_cases e1 : c = 34
    · subst e1
      rw [if_pos rfl]
      have hs : stp16 (.str n) st 34 = ⟨if n = true then .colon else .after, st, true⟩ := rfl
      rw [hs, if_pos rfl]; rfl
    · rw [if_neg e1]
      by_cases e2 : c = 92
      · subst e2
        rw [if_pos rfl]
        have hs : stp16 (.str n) st 92 = ⟨.esc n, st, true⟩ := rfl
        rw [hs, if_pos rfl]
        dsimp only
        cases r with
        | nil => rw [run16, if_neg (fun h => by cases h.2)]; rfl
        | cons d r =>
          rw [run16]
          dsimp only
          have hs : stp16 (.esc n) st d = ⟨.str n, st, decide (d = 34 ∨ d = 92)⟩ := rfl
          rw [hs]
          dsimp only
          by_cases e3 : d = 34 ∨ d = 92
          · rw [if_pos (decide_eq_true e3), if_pos e3, run_pSt m r (by simp only [List.length_cons] at h; omega)]
            cases pSt r <;> rfl
          · rw [if_neg (by simpa using e3), if_neg e3]; rfl
      · rw [if_neg e2]
        have hs : stp16 (.str n) st c = ⟨.str n, st, true⟩ := by
          show (if c = 92 then _ else _) = _
          rw [if_neg e2, if_neg e1]
        rw [hs, if_pos rfl, run_pSt m r h]
        cases pSt r <;> rfl
/-! ### the automaton and the reader agree -/
def res16 (g : Sg) (c : Nat) (r : List Nat) : R16 := if g.ok = true then run16 g.mo g.st r else .error (if isDeep g.mo = true then .deep (c :: r) else .nott (c :: r))
theorem run_cons {mo : Mo} {st : List Bool} {c : Nat} {r : List Nat} : run16 mo st (c :: r) = res16 (stp16 mo st c) c r := rfl
theorem dg_ne {c : Nat} (h : isDg c = true) : 48 ≤ c ∧ c ≤ 57 := by
  unfold isDg at h
  simpa using h
theorem dg_iff {c : Nat} : isDg c = decide (48 ≤ c ∧ c ≤ 57) := by
  rw [Bool.eq_iff_iff, decide_eq_true_eq]
  exact ⟨dg_ne, fun h => by unfold isDg; simpa using h⟩
theorem after_dg {st : List Bool} {c : Nat} {r : List Nat} (h : isDg c = true) : run16 .after st (c :: r) = .error (.nott (c :: r)) := by
  have h := dg_ne h
  rw [run_cons]
  have hs : (stp16 .after st c).ok = false ∧ isDeep (stp16 .after st c).mo = false := by
    show (stAfter st c).ok = false ∧ isDeep (stAfter st c).mo = false
    unfold stAfter
    rw [if_neg (by omega)]
    cases st with
    | nil => exact ⟨rfl, rfl⟩
    | cons b s =>
      dsimp only
      rw [if_neg (by omega), if_neg (by cases b <;> (unfold clB; simp; omega))]
      exact ⟨rfl, rfl⟩
  unfold res16
  rw [hs.1, hs.2]; rfl
theorem run_figs {st : List Bool} : ∀ (r : List Nat) (m n : Nat), n + m = 30 → run16 (.figs n) st r = run16 .after st (pDg m r).2
  | [], m, n, h => by
    have : (pDg m []).2 = [] := by cases m <;> rfl
    rw [this]; rfl
  | c :: r, m, n, h => by
    rw [run_cons]
    by_cases hd : isDg c = true
    · have hs : stp16 (.figs n) st c = ⟨.figs (n + 1), st, decide (n + 1 ≤ 30)⟩ := by show (if isDg c = true then _ else _) = _; rw [if_pos hd]
      rw [hs]
      cases m with
      | zero =>
        rw [show (pDg 0 (c :: r)).2 = c :: r from rfl, after_dg hd]
        unfold res16
        rw [if_neg (by simp; omega)]; rfl
      | succ m =>
        have e : (pDg (m + 1) (c :: r)).2 = (pDg m r).2 := by rw [pDg, if_pos hd]
        rw [e]
        unfold res16
        rw [if_pos (by simp; omega)]
        exact run_figs r m (n + 1) (by omega)
    · have hs : stp16 (.figs n) st c = stp16 .after st c := by show (if isDg c = true then _ else _) = _; rw [if_neg hd]; rfl
      have e : (pDg m (c :: r)).2 = c :: r := by
        cases m with
        | zero => rfl
        | succ m => rw [pDg, if_neg hd]
      rw [hs, e, run_cons]
theorem run_nd {neg : Bool} {st : List Bool} {c : Nat} {r : List Nat} (h0 : c ≠ 48) : res16 ⟨.figs 1, st, decide (49 ≤ c ∧ c ≤ 57)⟩ c r = go16 (pNd neg (c :: r)) (run16 .after st) := by
  rw [pNd]
  by_cases hd : isDg c = true
  · have := dg_ne hd
    unfold res16
    rw [if_pos (by simp; omega), if_neg (by rw [hd]; simp), if_neg h0]
    exact run_figs r 29 1 (by omega)
  · have h2 : ¬ (49 ≤ c ∧ c ≤ 57) := fun z => hd (by rw [dg_iff]; simp; omega)
    unfold res16
    rw [if_neg (show ¬ (decide (49 ≤ c ∧ c ≤ 57) = true) from fun z => h2 (of_decide_eq_true z)), if_pos (show isDg c = false by simpa using hd)]
    rfl
theorem run_minus {st : List Bool} : ∀ (t : List Nat), run16 .minus st t = go16 (if t.head? = some 48 then .error (.nott t) else pNd true t) (run16 .after st)
  | [] => by rw [run16, if_neg (fun h => by cases h.2), if_neg (fun h => by cases h)]; rfl
  | c :: r => by
    rw [run_cons]
    have hs : stp16 .minus st c = ⟨.figs 1, st, decide (49 ≤ c ∧ c ≤ 57)⟩ := rfl
    rw [hs]
    by_cases h0 : c = 48
    · subst h0
      rw [if_pos (show (48 :: r : List Nat).head? = some 48 from rfl)]; rfl
    · rw [if_neg (show ¬ ((c :: r : List Nat).head? = some 48) from fun h => h0 (Option.some.inj h)), run_nd h0]
theorem begin_leaf {st : List Bool} {c : Nat} {r : List Nat} (h1 : c ≠ 91) (h2 : c ≠ 123) : res16 (stBegin st c) c r = go16 (pLeaf (c :: r)) (run16 .after st) := by
  have hh : (c :: r : List Nat).head? = some c := rfl
  have so : ∀ {d : Nat}, ¬ c = d → ¬ (some c = some d) := fun n z => n (Option.some.inj z)
  have n0 : ¬ (c = 91 ∨ c = 123) := fun z => z.elim h1 h2
  by_cases e1 : c = 34
  · subst e1
    show run16 (.str false) st r = go16 (match pStr (34 :: r) with | .error e => (.error e : PR RawV) | .ok q => .ok (RawV.str (mkS q.1), q.2)) (run16 .after st)
    unfold pStr
    rw [pEx, if_pos rfl]
    dsimp only
    rw [run_pSt r.length r (Nat.le_refl _)]
    cases pSt r <;> rfl
  by_cases e2 : c = 110
  · subst e2
    show run16 (.word [117, 108, 108]) st r = go16 (wrapR .non (pEs [110, 117, 108, 108] (110 :: r))) (run16 .after st)
    rw [pEs, pEx, if_pos rfl]
    dsimp only
    rw [run_pEs _ _ (by simp)]
    cases pEs [117, 108, 108] r <;> rfl
  by_cases e3 : c = 116
  · subst e3
    show run16 (.word [114, 117, 101]) st r = go16 (wrapR (.bl true) (pEs [116, 114, 117, 101] (116 :: r))) (run16 .after st)
    rw [pEs, pEx, if_pos rfl]
    dsimp only
    rw [run_pEs _ _ (by simp)]
    cases pEs [114, 117, 101] r <;> rfl
  by_cases e4 : c = 102
  · subst e4
    show run16 (.word [97, 108, 115, 101]) st r = go16 (wrapR (.bl false) (pEs [102, 97, 108, 115, 101] (102 :: r))) (run16 .after st)
    rw [pEs, pEx, if_pos rfl]
    dsimp only
    rw [run_pEs _ _ (by simp)]
    cases pEs [97, 108, 115, 101] r <;> rfl
  have el : pLeaf (c :: r) = pNm (c :: r) := by
    unfold pLeaf
    rw [hh, if_neg (so e1), if_neg (fun z => z.elim (so e2) fun z => z.elim (so e3) (so e4))]
  rw [el]
  unfold pNm
  rw [hh]
  by_cases e5 : c = 45
  · subst e5
    show run16 .minus st r = go16 (if r.head? = some 48 then .error (.nott r) else pNd true r) (run16 .after st)
    exact run_minus r
  rw [if_neg (so e5)]
  have eb : stBegin st c = if c = 48 then ⟨.after, st, true⟩ else ⟨.figs 1, st, decide (49 ≤ c ∧ c ≤ 57)⟩ := by
    unfold stBegin
    rw [if_neg n0, if_neg e1, if_neg e2, if_neg e3, if_neg e4, if_neg e5]
  rw [eb]
  by_cases e6 : c = 48
  · subst e6
    rfl
  · rw [if_neg e6]
    exact run_nd e6
theorem blk_cons {c : Nat} {r : List Nat} (h : blk (c :: r) = c :: r) : c ≠ 32 := fun z => by
  subst z
  rw [blk, if_pos rfl] at h
  have := (blk_suf r).length_le
  rw [h, List.length_cons] at this
  omega
theorem run_more {α : Type} {f : List Nat → PR α} {b : Bool} {st : List Bool} (hf : ∀ r, run16 (if b = true then .name else .value) (b :: st) r = go16 (f r) (run16 .after (b :: st))) (hs : ∀ r q, f r = .ok q → q.2.length ≤ r.length) :
    ∀ (n : Nat) (acc : List α) (r : List Nat), r.length < n → blk r = r → run16 .after (b :: st) r = go16 (pMore f (clB b) n acc r) (run16 .after st)
  | 0, _, _, h, _ => by cases h
  | n + 1, acc, [], h, hb => by
    rw [run16, if_neg (fun h => by cases h.1), pMore, if_neg (fun h => by cases h)]
    rfl
  | n + 1, acc, c :: r, h, hb => by
    have h32 := blk_cons hb
    have h : r.length < n := by simpa using h
    rw [run_cons]
    have e0 : stp16 .after (b :: st) c = if c = 44 then ⟨if b = true then .name else .value, b :: st, true⟩ else if c = clB b then ⟨.after, st, true⟩ else ⟨.after, b :: st, false⟩ := by
      show stAfter (b :: st) c = _
      unfold stAfter
      rw [if_neg h32]
    rw [e0, pMore]
    by_cases h44 : c = 44
    · subst h44
      show run16 (if b = true then .name else .value) (b :: st) r = go16 (match f r with | .error e => (.error e : PR (List α)) | .ok q => pMore f (clB b) n (acc ++ [q.1]) (blk q.2)) (run16 .after st)
      rw [hf]
      cases hx : f r with
      | error e => rfl
      | ok q =>
        show run16 .after (b :: st) q.2 = _
        have hl := hs _ _ hx
        have hl2 := (blk_suf q.2).length_le
        rw [run_blk (mo := .after) rfl, run_more hf hs n (acc ++ [q.1]) (blk q.2) (by omega) (blk_blk _)]
    · rw [if_neg h44, if_neg (show ¬ ((c :: r : List Nat).head? = some 44) from fun z => h44 (Option.some.inj z)), pEx]
      by_cases hc : c = clB b
      · rw [if_pos hc, if_pos hc]; rfl
      · rw [if_neg hc, if_neg hc]; rfl
theorem run_mem {α : Type} {f : List Nat → PR α} {b : Bool} {st : List Bool} (hf : ∀ r, run16 (if b = true then .name else .value) (b :: st) r = go16 (f r) (run16 .after (b :: st))) (hs : ∀ r q, f r = .ok q → q.2.length ≤ r.length)
    (h1 : ∀ c r, c ≠ 32 → c ≠ clB b → run16 (.first b) (b :: st) (c :: r) = run16 (if b = true then .name else .value) (b :: st) (c :: r)) (h0 : f [] = .error (.nott [])) (r : List Nat) :
    run16 (.first b) (b :: st) r = go16 (pMem f (clB b) r) (run16 .after st) := by
  rw [run_blk (mo := .first b) rfl]
  unfold pMem
  have hb := blk_blk r
  generalize blk r = r at hb
  cases r with
  | nil =>
    rw [run16, if_neg (fun h => by cases h.1), if_neg (fun h => by cases h), h0]
    rfl
  | cons c r =>
    have h32 := blk_cons hb
    by_cases hc : c = clB b
    · rw [if_pos (show (c :: r : List Nat).head? = some (clB b) by rw [hc]; rfl), run_cons]
      have e0 : stp16 (.first b) (b :: st) c = ⟨.after, st, true⟩ := by
        show (if c = 32 then _ else if c = clB b then stAfter (b :: st) c else _) = _
        rw [if_neg h32, if_pos hc]
        unfold stAfter
        rw [if_neg h32]
        dsimp only
        rw [if_neg (by rw [hc]; cases b <;> decide), if_pos hc]
      rw [e0]; rfl
    · rw [if_neg (show ¬ ((c :: r : List Nat).head? = some (clB b)) from fun z => hc (Option.some.inj z)), h1 c r h32 hc, hf]
      cases hx : f (c :: r) with
      | error e => rfl
      | ok q =>
        show run16 .after (b :: st) q.2 = _
        have hl2 := (blk_suf q.2).length_le
        rw [run_blk (mo := .after) rfl, run_more hf hs (q.2.length + 1) [q.1] (blk q.2) (by omega) (blk_blk _)]
theorem run_pair {f : List Nat → PR RawV} {st : List Bool} (hf : ∀ r, run16 .value (true :: st) r = go16 (f r) (run16 .after (true :: st))) (r : List Nat) : run16 .name (true :: st) r = go16 (pPair f r) (run16 .after (true :: st)) := by
  rw [run_blk (mo := .name) rfl]
  unfold pPair pStr
  have hb := blk_blk r
  generalize blk r = r at hb
  cases r with
  | nil => rw [run16, if_neg (fun h => by cases h.1)]; rfl
  | cons c r =>
    have h32 := blk_cons hb
    rw [run_cons, pEx]
    have e0 : stp16 .name (true :: st) c = ⟨.str true, true :: st, decide (c = 34)⟩ := by
      show (if c = 32 then _ else _) = _
      rw [if_neg h32]
    rw [e0]
    by_cases hc : c = 34
    · subst hc
      rw [if_pos rfl]
      show run16 (.str true) (true :: st) r = _
      rw [run_pSt r.length r (Nat.le_refl _)]
      dsimp only
      cases hx : pSt r with
      | error e => rfl
      | ok q =>
        show run16 .colon (true :: st) q.2 = _
        rw [run_blk (mo := .colon) rfl]
        dsimp only
        have hb2 := blk_blk q.2
        generalize blk q.2 = r2 at hb2
        cases r2 with
        | nil => rw [run16, if_neg (fun h => by cases h.1)]; rfl
        | cons d r2 =>
          have h32 := blk_cons hb2
          rw [run_cons, pEx]
          have e1 : stp16 .colon (true :: st) d = ⟨.value, true :: st, decide (d = 58)⟩ := by
            show (if d = 32 then _ else _) = _
            rw [if_neg h32]
          rw [e1]
          by_cases hd : d = 58
          · subst hd
            rw [if_pos rfl]
            show run16 .value (true :: st) r2 = _
            rw [hf]
            dsimp only
            cases f r2 <;> rfl
          · rw [if_neg hd]
            unfold res16
            rw [if_neg (by simpa using hd)]; rfl
    · rw [if_neg hc]
      unfold res16
      rw [if_neg (by simpa using hc)]; rfl
theorem run_val : ∀ (d : Nat) (st : List Bool) (r : List Nat), st.length + d = 60 → run16 .value st r = go16 (pVal d r) (run16 .after st) := fun d => by
  induction d with
  | zero =>
    intro st r h
    rw [run_blk (mo := .value) rfl, pVal]
    have hb := blk_blk r
    generalize blk r = r at hb
    cases r with
    | nil => rw [run16, if_neg (fun h => by cases h.2)]; rfl
    | cons c r =>
      have h32 := blk_cons hb
      rw [run_cons]
      have e0 : stp16 .value st c = stBegin st c := by show (if c = 32 then _ else _) = _; rw [if_neg h32]
      rw [e0]
      by_cases hc : c = 91 ∨ c = 123
      · rw [if_pos (by rcases hc with rfl | rfl <;> simp)]
        unfold stBegin
        rw [if_pos hc, if_pos (by omega)]
        rfl
      · rw [if_neg (by simpa using hc)]
        exact begin_leaf (fun z => hc (.inl z)) (fun z => hc (.inr z))
  | succ d ih =>
    intro st r h
    rw [run_blk (mo := .value) rfl, pVal]
    have hb := blk_blk r
    generalize blk r = r at hb
    cases r with
    | nil => rw [run16, if_neg (fun h => by cases h.2)]; rfl
    | cons c r =>
      have h32 := blk_cons hb
      rw [run_cons]
      have e0 : stp16 .value st c = stBegin st c := by show (if c = 32 then _ else _) = _; rw [if_neg h32]
      rw [e0]
      have hsuf : ∀ r q, pVal d r = .ok q → q.2.length ≤ r.length := fun r q e => ((pVal_suf d r).1 q e).length_le
      by_cases h91 : c = 91
      · subst h91
        rw [if_pos (show (91 :: r : List Nat).head? = some 91 from rfl)]
        unfold stBegin
        rw [if_pos (.inl rfl), if_neg (by omega)]
        show run16 (.first false) (false :: st) r = _
        rw [run_mem (f := pVal d) (b := false) (fun r => ih (false :: st) r (by simp; omega)) hsuf (fun c r a1 a2 => ?_) (pVal_nil d)]
        · show _ = go16 (match pMem (pVal d) 93 r with | .error e => _ | .ok q => _) _
          show go16 (pMem (pVal d) 93 r) _ = _
          cases pMem (pVal d) 93 r <;> rfl
        · rw [run_cons, run_cons]
          have x1 : stp16 (.first false) (false :: st) c = stBegin (false :: st) c := by
            show (if c = 32 then _ else if c = clB false then _ else if false = true then _ else _) = _
            rw [if_neg a1, if_neg a2, if_neg Bool.false_ne_true]
          have x2 : stp16 (if false = true then .name else .value) (false :: st) c = stBegin (false :: st) c := by
            rw [if_neg Bool.false_ne_true]
            show (if c = 32 then _ else _) = _
            rw [if_neg a1]
          rw [x1, x2]
      rw [if_neg (show ¬ ((c :: r : List Nat).head? = some 91) from fun z => h91 (Option.some.inj z))]
      by_cases h123 : c = 123
      · subst h123
        rw [if_pos (show (123 :: r : List Nat).head? = some 123 from rfl)]
        unfold stBegin
        rw [if_pos (.inr rfl), if_neg (by omega)]
        show run16 (.first true) (true :: st) r = _
        have hp : ∀ r, run16 (if true = true then .name else .value) (true :: st) r = go16 (pPair (pVal d) r) (run16 .after (true :: st)) := fun r => by
          rw [if_pos rfl]
          exact run_pair (fun r => ih (true :: st) r (by simp; omega)) r
        rw [run_mem (f := pPair (pVal d)) (b := true) hp (fun r q e => ((pPair_suf (pVal_suf d) r).1 q e).length_le) (fun c r a1 a2 => ?_) rfl]
        · show go16 (pMem (pPair (pVal d)) 125 r) _ = go16 (match pMem (pPair (pVal d)) 125 r with | .error e => _ | .ok q => _) _
          cases pMem (pPair (pVal d)) 125 r <;> rfl
        · rw [run_cons, run_cons]
          have x1 : stp16 (.first true) (true :: st) c = ⟨.str true, true :: st, decide (c = 34)⟩ := by
            show (if c = 32 then _ else if c = clB true then _ else if true = true then _ else _) = _
            rw [if_neg a1, if_neg a2, if_pos rfl]
          have x2 : stp16 (if true = true then .name else .value) (true :: st) c = ⟨.str true, true :: st, decide (c = 34)⟩ := by
            rw [if_pos rfl]
            show (if c = 32 then _ else _) = _
            rw [if_neg a1]
          rw [x1, x2]
      rw [if_neg (show ¬ ((c :: r : List Nat).head? = some 123) from fun z => h123 (Option.some.inj z))]
      exact begin_leaf h91 h123
/-- the automaton tells what the reader tells -/
theorem run_text (l : List Nat) : run16 .value [] l = (match pText l with | .error e => .error e | .ok _ => .ok ()) := by
  rw [run_val 60 [] l rfl]
  unfold pText
  cases pVal 60 l with
  | error e => rfl
  | ok q =>
    show run16 .after [] q.2 = _
    rw [run_blk (mo := .after) rfl]
    dsimp only
    have hb := blk_blk q.2
    generalize blk q.2 = r at hb
    cases r with
    | nil => rfl
    | cons c r =>
      have h32 := blk_cons hb
      rw [run_cons]
      have e0 : stp16 .after [] c = ⟨.after, [], false⟩ := by
        show stAfter [] c = _
        unfold stAfter
        rw [if_neg h32]
      rw [e0]; rfl
end KQ
namespace KQ
open PySem PySem.Spec PyProof.Rows L2 TL KB
/-! ### what is read is written as the text without its blanks -/
mutual
def RI : RawV → Prop
  | .row xs => RIL xs
  | .tab ns xs => RIL xs ∧ ns.length = xs.length
  | .non => True
  | .bl _ => True
  | .int n => n.natAbs < 10 ^ 30
  | .str _ => True
def RIL : List RawV → Prop
  | [] => True
  | x :: xs => RI x ∧ RIL xs
end
theorem RIL_of : ∀ {xs : List RawV}, (∀ x ∈ xs, RI x) → RIL xs
  | [], _ => trivial
  | x :: xs, h => ⟨h x List.mem_cons_self, RIL_of fun y hy => h y (List.mem_cons_of_mem _ hy)⟩
theorem RIL_mem : ∀ {xs : List RawV} {x : RawV}, RIL xs → x ∈ xs → RI x
  | x :: xs, y, h, m => by
    rcases List.mem_cons.mp m with rfl | m
    · exact h.1
    · exact RIL_mem h.2 m
theorem rdepthL_of {d : Nat} : ∀ {xs : List RawV}, (∀ x ∈ xs, rdepth x ≤ d) → rdepthL xs ≤ d
  | [], _ => Nat.zero_le _
  | x :: xs, h => by
    have h1 := h x List.mem_cons_self
    have h2 := rdepthL_of (xs := xs) fun y hy => h y (List.mem_cons_of_mem _ hy)
    show max (rdepth x) (rdepthL xs) ≤ d
    omega
def Sq (pre out : List Nat) : Prop := ∀ t, sqz false false (pre ++ t) = out ++ sqz false false t
theorem Sq.nil : Sq [] [] := fun _ => rfl
theorem Sq.app {a b x y : List Nat} (h : Sq a x) (g : Sq b y) : Sq (a ++ b) (x ++ y) := fun t => by
  rw [List.append_assoc, h, g, List.append_assoc]
theorem Sq.plain {t : List Nat} (h : Plain t) : Sq t t := h
theorem Sq.cs {cs : List Nat} (h : ∀ c ∈ cs, c ≠ 32 ∧ c ≠ 34) : Sq cs cs := plain_of h
theorem sq_blk : ∀ r : List Nat, ∃ pre, r = pre ++ blk r ∧ Sq pre []
  | [] => ⟨[], rfl, Sq.nil⟩
  | c :: r => by
    rw [blk]
    split
    · rename_i h
      subst h
      obtain ⟨pre, e, s⟩ := sq_blk r
      refine ⟨32 :: pre, by rw [List.cons_append, ← e], fun t => ?_⟩
      have := sqz_rep 1 (pre ++ t)
      rw [show List.replicate 1 32 ++ (pre ++ t) = (32 :: pre) ++ t from rfl] at this
      rw [this]; exact s t
    · exact ⟨[], rfl, Sq.nil⟩
theorem pEx_back {c : Nat} {r r' : List Nat} (h : pEx c r = .ok r') : r = c :: r' := by
  cases r with
  | nil => cases h
  | cons x r =>
    rw [pEx] at h
    split at h
    · rename_i e; subst e; cases h; rfl
    · cases h
theorem pEs_back : ∀ {cs r r' : List Nat}, pEs cs r = .ok r' → r = cs ++ r'
  | [], r, r', h => by cases h; rfl
  | c :: cs, r, r', h => by
    rw [pEs] at h
    cases hx : pEx c r with
    | error e => rw [hx] at h; cases h
    | ok q =>
      rw [hx] at h
      rw [pEx_back hx, pEs_back h]; rfl
theorem pDg_back : ∀ (n : Nat) (r : List Nat), r = (pDg n r).1 ++ (pDg n r).2 ∧ (∀ x ∈ (pDg n r).1, isDg x = true) ∧ (pDg n r).1.length ≤ n
  | 0, r => ⟨rfl, (fun _ h => nomatch h), Nat.le_refl _⟩
  | n + 1, [] => ⟨rfl, (fun _ h => nomatch h), Nat.zero_le _⟩
  | n + 1, c :: r => by
    rw [pDg]
    split
    · rename_i h
      obtain ⟨a, b, l⟩ := pDg_back n r
      refine ⟨congrArg (c :: ·) a, fun x hx => ?_, by show (pDg n r).1.length + 1 ≤ n + 1; omega⟩
      rcases List.mem_cons.mp hx with rfl | hx
      · exact h
      · exact b x hx
    · exact ⟨rfl, (fun _ h => nomatch h), Nat.zero_le _⟩
theorem pSt_bk : ∀ (m : Nat) (r : List Nat) (q : List Nat × List Nat), r.length ≤ m → pSt r = .ok q → r = escL q.1 ++ 34 :: q.2
  | m, [], q, _, h => by cases h
  | 0, c :: r, _, h, _ => by cases h
  | m + 1, c :: r, q, hl, h => by
    have hl : r.length ≤ m := by simpa using hl
    rw [pSt.eq_def] at h
    dsimp only at h
    split at h
    · rename_i e; subst e; cases h; rfl
    · rename_i n34
      split at h
      · rename_i e
        subst e
        cases r with
        | nil => cases h
        | cons d r =>
          dsimp only at h
          split at h
          · rename_i hd
            cases hx : pSt r with
            | error e => rw [hx] at h; cases h
            | ok p =>
              rw [hx] at h
              cases h
              have := pSt_bk m r p (by simp only [List.length_cons] at hl; omega) hx
              show 92 :: d :: r = escL (d :: p.1) ++ 34 :: p.2
              rw [escL, if_pos hd, this]; rfl
          · cases h
      · rename_i n92
        cases hx : pSt r with
        | error e => rw [hx] at h; cases h
        | ok p =>
          rw [hx] at h
          cases h
          have := pSt_bk m r p hl hx
          show c :: r = escL (c :: p.1) ++ 34 :: p.2
          rw [escL, if_neg (fun z => z.elim n34 n92), this]; rfl
theorem pStr_back {r : List Nat} {q : List Nat × List Nat} (h : pStr r = .ok q) : r = strK q.1 ++ q.2 := by
  unfold pStr at h
  cases hx : pEx 34 r with
  | error e => rw [hx] at h; cases h
  | ok r' =>
    rw [hx] at h
    have := pSt_bk r'.length r' q (Nat.le_refl _) h
    rw [pEx_back hx, this]
    unfold strK; simp
/-- what a reader of values takes away -/
def Bkd (d : Nat) (r : List Nat) (q : RawV × List Nat) : Prop := RI q.1 ∧ rdepth q.1 ≤ d ∧ ∃ pre, r = pre ++ q.2 ∧ Sq pre (rndR q.1)
theorem num_back {neg : Bool} {r : List Nat} {q : RawV × List Nat} (h0 : neg = true → r.head? ≠ some 48) (h : pNd neg r = .ok q) : ∃ (n : Int) (pre : List Nat), q.1 = .int n ∧ n.natAbs < 10 ^ 30 ∧ r = pre ++ q.2 ∧ tl (intS n) = (if neg = true then [45] else []) ++ pre := by
  cases r with
  | nil => cases h
  | cons c r =>
    rw [pNd] at h
    split at h
    · cases h
    · rename_i hd
      have hd : isDg c = true := by simpa using hd
      split at h
      · rename_i e
        subst e
        cases h
        cases neg with
        | true => exact absurd rfl (h0 rfl)
        | false => exact ⟨0, [48], rfl, by decide, rfl, by decide +kernel⟩
      · rename_i hc
        obtain ⟨a, b, l⟩ := pDg_back 29 r
        have hall : ∀ x ∈ c :: (pDg 29 r).1, isDg x = true := fun x hx => by
          rcases List.mem_cons.mp hx with rfl | hx
          · exact hd
          · exact b x hx
        have ad := all_dg hall
        have hlen : (c :: (pDg 29 r).1).length ≤ 30 := by rw [List.length_cons]; omega
        have lt := digits30 ad hlen
        have nb := numL_back (c :: (pDg 29 r).1) ad (by simp) (.inr (by simpa using hc))
        have pos := digits_pos (c :: (pDg 29 r).1) ad (by simp) (by simpa using hc)
        cases h
        refine ⟨if neg = true then -((NumText.digitsVal (c :: (pDg 29 r).1) : Nat) : Int) else ((NumText.digitsVal (c :: (pDg 29 r).1) : Nat) : Int), c :: (pDg 29 r).1, rfl, ?_, by rw [List.cons_append, ← a], ?_⟩
        · cases neg <;> simp <;> omega
        · unfold intS
          rw [tl_int]
          unfold intL
          cases neg with
          | true =>
            rw [if_pos rfl, if_pos rfl, if_pos (by omega), Int.natAbs_neg, Int.natAbs_natCast, nb]; rfl
          | false =>
            rw [if_neg Bool.false_ne_true, if_neg Bool.false_ne_true, if_neg (by omega), Int.natAbs_natCast, nb]; rfl
theorem wd_sq {cs : List Nat} (h : ∀ c ∈ cs, c ≠ 32 ∧ c ≠ 34) : Sq cs cs := plain_of h
theorem rnd_int {n : Int} : rndR (.int n) = tl (intS n) := by
  show [tl (intS n)].flatten = _
  simp
theorem rnd_str {z : Str} : rndR (.str z) = strK (tl z) := by
  show [strK (tl z)].flatten = _
  simp
theorem leaf_back {d : Nat} {r : List Nat} {q : RawV × List Nat} (h : pLeaf r = .ok q) : Bkd d r q := by
  unfold pLeaf at h
  split at h
  · cases hx : pStr r with
    | error e => rw [hx] at h; cases h
    | ok p =>
      rw [hx] at h; cases h
      refine ⟨trivial, Nat.zero_le _, strK p.1, pStr_back hx, ?_⟩
      rw [rnd_str, tl_mkS]
      exact plain_str p.1
  split at h
  · unfold pWd at h
    split at h
    · cases hx : pEs [110, 117, 108, 108] r with
      | error e => rw [hx] at h; cases h
      | ok r' => rw [hx] at h; cases h; exact ⟨trivial, Nat.zero_le _, _, pEs_back hx, wd_sq (by decide)⟩
    split at h
    · cases hx : pEs [116, 114, 117, 101] r with
      | error e => rw [hx] at h; cases h
      | ok r' => rw [hx] at h; cases h; exact ⟨trivial, Nat.zero_le _, _, pEs_back hx, wd_sq (by decide)⟩
    · cases hx : pEs [102, 97, 108, 115, 101] r with
      | error e => rw [hx] at h; cases h
      | ok r' => rw [hx] at h; cases h; exact ⟨trivial, Nat.zero_le _, _, pEs_back hx, wd_sq (by decide)⟩
  unfold pNm at h
  split at h
  · rename_i h45
    split at h
    · cases h
    · rename_i h48
      obtain ⟨n, pre, e1, e2, e3, e4⟩ := num_back (fun _ => h48) h
      obtain ⟨v, r'⟩ := q
      have e1 : v = .int n := e1
      subst e1
      refine ⟨e2, Nat.zero_le _, 45 :: pre, ?_, ?_⟩
      · cases r with
        | nil => cases h45
        | cons c r => cases h45; exact congrArg (45 :: ·) e3
      · rw [rnd_int, e4]
        have := plain_int e2
        rw [e4] at this
        exact this
  · obtain ⟨n, pre, e1, e2, e3, e4⟩ := num_back (neg := false) (fun z => absurd z (by decide)) h
    obtain ⟨v, r'⟩ := q
    have e1 : v = .int n := e1
    subst e1
    refine ⟨e2, Nat.zero_le _, pre, e3, ?_⟩
    have := plain_int e2
    rw [rnd_int]
    rw [e4] at this ⊢
    exact this
def comT {α : Type} (out : α → List Nat) (L : List α) : List Nat := (L.map fun x => 44 :: out x).flatten
theorem joinL_com {α : Type} (out : α → List Nat) : ∀ (x : α) (L : List α), TL.joinL [44] ((x :: L).map out) = out x ++ comT out L
  | x, [] => by show out x = _; unfold comT; simp
  | x, y :: L => by
    show out x ++ ([44] ++ TL.joinL [44] ((y :: L).map out)) = _
    rw [joinL_com out y L]
    unfold comT
    simp
theorem more_back {α : Type} {f : List Nat → PR α} {out : α → List Nat} {R : α → Prop} {cl : Nat} (hc : cl ≠ 32 ∧ cl ≠ 34) (hf : ∀ r q, f r = .ok q → R q.1 ∧ ∃ pre, r = pre ++ q.2 ∧ Sq pre (out q.1)) :
    ∀ (n : Nat) (acc : List α) (r : List Nat) (q : List α × List Nat), pMore f cl n acc r = .ok q → ∃ L pre, q.1 = acc ++ L ∧ (∀ x ∈ L, R x) ∧ r = pre ++ q.2 ∧ Sq pre (comT out L ++ [cl])
  | 0, _, _, _, h => by cases h
  | n + 1, acc, r, q, h => by
    rw [pMore] at h
    split at h
    · rename_i h44
      cases hx : f r.tail with
      | error e => rw [hx] at h; cases h
      | ok p =>
        rw [hx] at h
        obtain ⟨Rp, pre1, e1, s1⟩ := hf _ _ hx
        obtain ⟨pre2, e2, s2⟩ := sq_blk p.2
        obtain ⟨L, pre3, e3, RL, e4, s3⟩ := more_back hc hf n (acc ++ [p.1]) (blk p.2) q h
        refine ⟨p.1 :: L, 44 :: (pre1 ++ (pre2 ++ pre3)), by rw [e3, List.append_assoc]; rfl, fun x hx => ?_, ?_, ?_⟩
        · rcases List.mem_cons.mp hx with rfl | hx
          · exact Rp
          · exact RL x hx
        · cases r with
          | nil => cases h44
          | cons c r =>
            cases h44
            have e1 : r = pre1 ++ p.2 := e1
            rw [e1, e2, e4]
            simp
        · have s0 : Sq [44] [44] := wd_sq (by decide)
          have := s0.app (s1.app (s2.app s3))
          have e : comT out (p.1 :: L) = [44] ++ (out p.1 ++ comT out L) := by unfold comT; simp
          rw [e]
          intro t
          have := this t
          simpa using this
    · cases hx : pEx cl r with
      | error e => rw [hx] at h; cases h
      | ok r' =>
        rw [hx] at h; cases h
        refine ⟨[], [cl], by simp, (fun _ h => nomatch h), pEx_back hx, ?_⟩
        exact wd_sq (fun c hcm => by rw [List.mem_singleton.mp hcm]; exact hc)
theorem mem_back {α : Type} {f : List Nat → PR α} {out : α → List Nat} {R : α → Prop} {cl : Nat} (hc : cl ≠ 32 ∧ cl ≠ 34) (hf : ∀ r q, f r = .ok q → R q.1 ∧ ∃ pre, r = pre ++ q.2 ∧ Sq pre (out q.1))
    {r : List Nat} {q : List α × List Nat} (h : pMem f cl r = .ok q) : (∀ x ∈ q.1, R x) ∧ ∃ pre, r = pre ++ q.2 ∧ Sq pre (TL.joinL [44] (q.1.map out) ++ [cl]) := by
  unfold pMem at h
  obtain ⟨pre0, e0, s0⟩ := sq_blk r
  split at h
  · rename_i hh
    cases h
    refine ⟨(fun _ h => nomatch h), pre0 ++ [cl], ?_, ?_⟩
    · generalize blk r = b at e0 hh
      cases b with
      | nil => cases hh
      | cons c b => cases hh; rw [e0]; simp
    · exact s0.app (wd_sq (fun c hcm => by rw [List.mem_singleton.mp hcm]; exact hc))
  · cases hx : f (blk r) with
    | error e => rw [hx] at h; cases h
    | ok p =>
      rw [hx] at h
      obtain ⟨Rp, pre1, e1, s1⟩ := hf _ _ hx
      obtain ⟨pre2, e2, s2⟩ := sq_blk p.2
      obtain ⟨L, pre3, e3, RL, e4, s3⟩ := more_back (out := out) hc hf _ [p.1] (blk p.2) q h
      have e3 : q.1 = p.1 :: L := e3
      refine ⟨fun x hx => ?_, pre0 ++ (pre1 ++ (pre2 ++ pre3)), ?_, ?_⟩
      · rw [e3] at hx
        rcases List.mem_cons.mp hx with rfl | hx
        · exact Rp
        · exact RL x hx
      · rw [e0, e1, e2, e4]; simp
      · rw [e3, joinL_com]
        intro t
        have := (s0.app (s1.app (s2.app s3))) t
        simpa using this
theorem pair_back {d : Nat} {f : List Nat → PR RawV} (hf : ∀ r q, f r = .ok q → Bkd d r q) {r : List Nat} {q : (Str × RawV) × List Nat} (h : pPair f r = .ok q) : (RI q.1.2 ∧ rdepth q.1.2 ≤ d) ∧ ∃ pre, r = pre ++ q.2 ∧ Sq pre (strK (tl q.1.1) ++ 58 :: rndR q.1.2) := by
  unfold pPair at h
  obtain ⟨pre0, e0, s0⟩ := sq_blk r
  cases hx : pStr (blk r) with
  | error e => rw [hx] at h; cases h
  | ok p =>
    rw [hx] at h
    dsimp only at h
    obtain ⟨pre1, e1, s1⟩ := sq_blk p.2
    cases hy : pEx 58 (blk p.2) with
    | error e => rw [hy] at h; cases h
    | ok r' =>
      rw [hy] at h
      dsimp only at h
      cases hz : f r' with
      | error e => rw [hz] at h; cases h
      | ok v =>
        rw [hz] at h; cases h
        obtain ⟨a1, a2, pre2, e2, s2⟩ := hf _ _ hz
        refine ⟨⟨a1, a2⟩, pre0 ++ (strK p.1 ++ (pre1 ++ ([58] ++ pre2))), ?_, ?_⟩
        · have b1 := pStr_back hx
          have b2 := pEx_back hy
          conv => lhs; rw [e0, b1, e1, b2, e2]
          simp
        · have s3 : Sq [58] [58] := wd_sq (by decide)
          have s4 : Sq (strK p.1) (strK p.1) := plain_str p.1
          intro t
          have := (s0.app (s4.app (s1.app (s3.app s2)))) t
          rw [tl_mkS]
          simpa using this
theorem zip_fst_snd {α β : Type} : ∀ L : List (α × β), (L.map (·.1)).zip (L.map (·.2)) = L
  | [] => rfl
  | x :: L => congrArg (x :: ·) (zip_fst_snd L)
theorem val_back : ∀ (d : Nat) (r : List Nat) (q : RawV × List Nat), pVal d r = .ok q → Bkd d r q := fun d => by
  have pre {d : Nat} {r : List Nat} {q : RawV × List Nat} (h : Bkd d (blk r) q) : Bkd d r q := by
    obtain ⟨pre0, e0, s0⟩ := sq_blk r
    obtain ⟨a, b, p, e, s⟩ := h
    refine ⟨a, b, pre0 ++ p, ?_, ?_⟩
    · conv => lhs; rw [e0, e]
      simp
    · intro t; have := (s0.app s) t; simpa using this
  induction d with
  | zero =>
    intro r q h
    rw [pVal] at h
    split at h
    · cases h
    · exact pre (leaf_back h)
  | succ d ih =>
    intro r q h
    rw [pVal] at h
    split at h
    · rename_i h91
      cases hx : pMem (pVal d) 93 (blk r).tail with
      | error e => rw [hx] at h; cases h
      | ok p =>
        rw [hx] at h; cases h
        obtain ⟨RL, p1, e1, s1⟩ := mem_back (R := fun x => RI x ∧ rdepth x ≤ d) (out := rndR) (by decide) (fun r q h => by obtain ⟨a, b, c⟩ := ih r q h; exact ⟨⟨a, b⟩, c⟩) hx
        refine pre ⟨RIL_of fun x hx => (RL x hx).1, ?_, 91 :: p1, ?_, ?_⟩
        · have := rdepthL_of fun x hx => (RL x hx).2
          show 1 + rdepthL p.1 ≤ d + 1; omega
        · generalize blk r = b at h91 e1
          cases b with
          | nil => cases h91
          | cons c b => cases h91; exact congrArg (91 :: ·) e1
        · have s0 : Sq [91] [91] := wd_sq (by decide)
          rw [rend_row]
          exact s0.app s1
    split at h
    · rename_i h91 h123
      cases hx : pMem (pPair (pVal d)) 125 (blk r).tail with
      | error e => rw [hx] at h; cases h
      | ok p =>
        rw [hx] at h; cases h
        obtain ⟨RL, p1, e1, s1⟩ := mem_back (R := fun x : Str × RawV => RI x.2 ∧ rdepth x.2 ≤ d) (out := fun x => strK (tl x.1) ++ 58 :: rndR x.2) (by decide) (fun r q h => pair_back ih h) hx
        refine pre ⟨⟨RIL_of fun x hx => ?_, by simp⟩, ?_, 123 :: p1, ?_, ?_⟩
        · obtain ⟨y, hy, rfl⟩ := List.mem_map.mp hx; exact (RL y hy).1
        · have := rdepthL_of (xs := p.1.map (·.2)) (d := d) fun x hx => by obtain ⟨y, hy, rfl⟩ := List.mem_map.mp hx; exact (RL y hy).2
          show 1 + rdepthL (p.1.map (·.2)) ≤ d + 1; omega
        · generalize blk r = b at h123 e1
          cases b with
          | nil => cases h123
          | cons c b => cases h123; exact congrArg (123 :: ·) e1
        · have s0 : Sq [123] [123] := wd_sq (by decide)
          rw [rend_tab, zip_fst_snd]
          exact s0.app s1
    · exact pre (leaf_back h)
/-- what is read, written again, is the text without its blanks -/
theorem text_back {l : List Nat} {v : RawV} (h : pText l = .ok v) : RI v ∧ rdepth v ≤ 60 ∧ rndR v = sqz false false l := by
  unfold pText at h
  cases hx : pVal 60 l with
  | error e => rw [hx] at h; cases h
  | ok q =>
    rw [hx] at h
    dsimp only at h
    split at h
    · rename_i hb
      cases h
      obtain ⟨a, b, pre, e, s⟩ := val_back 60 l q hx
      refine ⟨a, b, ?_⟩
      obtain ⟨p2, e2, s2⟩ := sq_blk q.2
      have eb : blk q.2 = [] := by simpa using hb
      rw [eb, List.append_nil] at e2
      rw [e, e2, s p2]
      have := s2 []
      rw [List.append_nil] at this
      rw [this]
      show _ = rndR q.1 ++ ([] ++ [])
      simp
    · cases h
theorem lc_mapM {α : Type} {ok : Sto → Prop} {p : Pat} {te : UE} {ρ : Rho} {Q : QV} {S : Sto} (l : List α) (g f : α → Tr) (hok : ok S) (hl : l.length ≤ 4000000)
    (h : ∀ a ∈ l, ∀ (N1 : QV), N1 (f a) S → ∃ ρ2, patR p (g a) ρ = some ρ2 ∧ te ρ2 S N1 X0) (hq : Q (.lst (l.map f)) S) : uLcL ok p uYes te ρ Q (l.map g) [] S := by
  refine lc_inv _ (fun i acc S' => acc = (l.take i).map f ∧ S' = S) ?_ ?_ ⟨rfl, rfl⟩
  · rintro i x acc S' N hx ⟨rfl, rfl⟩ hN
    rw [List.getElem?_map] at hx
    obtain ⟨a, ha, rfl⟩ := Option.map_eq_some_iff.mp hx
    have hi := (List.getElem?_eq_some_iff.mp ha).1
    have ln : ((l.take i).map f).length < sizeLine := szM' (by rw [List.length_map, List.length_take]; omega)
    obtain ⟨ρ2, e, k⟩ := h a (List.mem_of_getElem? ha) (fun y S4 => ((l.take i).map f).length < sizeLine ∧ N ((l.take i).map f ++ [y]) S4) ⟨ln, hN _ _ ⟨by rw [List.take_add_one, ha, List.map_append]; rfl, rfl⟩⟩
    exact ⟨hok, ρ2, e, k⟩
  · rintro acc S' ⟨rfl, rfl⟩
    rw [List.length_map, List.take_of_length_le (Nat.le_refl _)]
    exact ⟨hok, hq⟩
theorem joinL_len : ∀ L : List (List Nat), (L.map List.length).sum + L.length ≤ (TL.joinL [44] L).length + 1
  | [] => by simp
  | [p] => by show (p.length + 0) + 1 ≤ p.length + 1; omega
  | p :: q :: r => by
    have h := joinL_len (q :: r)
    show (p.length + ((q :: r).map List.length).sum) + ((q :: r).length + 1) ≤ (p ++ ([44] ++ TL.joinL [44] (q :: r))).length + 1
    rw [List.length_append, List.length_append]
    show _ ≤ p.length + (1 + _) + 1
    omega
theorem len_mem : ∀ {L : List (List Nat)} {x : List Nat}, x ∈ L → x.length ≤ (L.map List.length).sum
  | y :: L, x, h => by
    show x.length ≤ y.length + (L.map List.length).sum
    rcases List.mem_cons.mp h with rfl | h
    · omega
    · have := len_mem h; omega
theorem escL_ge : ∀ l : List Nat, l.length ≤ (escL l).length
  | [] => Nat.le_refl _
  | c :: l => by
    have := escL_ge l
    rw [escL]
    split <;> simp only [List.length_cons] <;> omega
theorem strK_ge (l : List Nat) : l.length + 2 ≤ (strK l).length := by
  have := escL_ge l
  unfold strK
  simp only [List.length_cons, List.length_append, List.length_nil]
  omega
theorem sqz_len : ∀ (i e : Bool) (l : List Nat), (sqz i e l).length ≤ l.length
  | i, e, [] => Nat.le_refl _
  | i, e, c :: r => by
    rw [sqz, List.length_append, List.length_cons]
    have a : (if i = true ∨ c ≠ 32 then [c] else []).length ≤ 1 := by split <;> simp
    have b : (if e = true then sqz i false r else if i = true ∧ c = 92 then sqz i true r else if c = 34 then sqz (!i) false r else sqz i false r).length ≤ r.length := by
      repeat' split
      all_goals exact sqz_len _ _ r
    omega
end KQ
namespace KQ
open PySem PySem.Spec PyProof.Rows L2 TL KB
/-! ### sum(xs) of a list of ints -/
end KQ
namespace KQ
open PySem PySem.Spec PyProof.Rows L2 TL KB
/-! ### writers alike: what two of them do with eleven small values tells what they do with all -/
def k5 : Key := .inl 5
def s5 : Key := .inr "5"
def kk : Key := .inr "k"
theorem wrt_tab (o : Wo) (n : Nat) (ks : List Key) (vs : List Val) (p : List Key) : wrt o (n + 1) (.tab ks vs) p = wT (wrt o n) o (ks.zip vs) p := rfl
/-! #### and back -/
/-! #### all values -/
/-! #### the law's plain side -/
/-! #### `==` of lists of texts of any length, and of a text or none -/
end KQ
namespace KQ
open PySem PySem.Spec PyProof.Rows L2 TL KB
/-! ### what comes back comes back the same -/
abbrev ltE (a b : Key × Val) : Bool := ltS (keyS a.1) (keyS b.1)
theorem isort_id {α : Type} {lt : α → α → Bool} : ∀ {l : List α}, l.Pairwise (fun x y => lt y x = false) → isort lt l = l
  | [], _ => rfl
  | x :: xs, h => by
    have h' := List.pairwise_cons.mp h
    rw [isort, isort_id h'.2]
    cases xs with
    | nil => rfl
    | cons y ys => rw [insS, if_neg (by rw [h'.1 y (List.mem_cons_self ..)]; decide)]
theorem isort_pw {l : List (Key × Val)} : (isort ltE l).Pairwise (fun x y => ltS (keyS y.1) (keyS x.1) = false) := by
  have : SrtO.Swo ltE := ⟨fun a b h => swoS.asym _ _ h, fun a b c h g => swoS.tr _ _ _ h g⟩
  exact isort_srtd this l
mutual
/-- what a writer makes -/
def rawC (w : Wo) : RawV → Prop
  | .non => True
  | .bl _ => True
  | .str _ => True
  | .int i => longI i = true → w.longs = "keep"
  | .row xs => rawCL w xs
  | .tab ns xs => rawCL w xs ∧ (w.nulls = "skip" → ∀ x ∈ xs, x ≠ .non) ∧ (w.order = "rising" → ns.Pairwise (fun x y => ltS y x = false))
def rawCL (w : Wo) : List RawV → Prop
  | [] => True
  | x :: xs => rawC w x ∧ rawCL w xs
end
mutual
/-- what comes back -/
def valC (w : Wo) (r : Ro) : Val → Prop
  | .non => True
  | .bl _ => True
  | .str _ => True
  | .int i => longI i = true → w.longs = "keep"
  | .lst vs => r.lists ≠ "tuple" ∧ valCL w r vs
  | .tup vs => r.lists = "tuple" ∧ valCL w r vs
  | .tab ks vs => valCL w r vs ∧ (∀ v ∈ vs, isNonV v = true → w.nulls ≠ "skip" ∧ r.nulls = "keep") ∧ (∀ k ∈ ks, bkey r (keyS k) = k) ∧ (ks.map keyS).Nodup ∧ (w.order = "rising" → ks.Pairwise (fun x y => ltS (keyS y) (keyS x) = false))
def valCL (w : Wo) (r : Ro) : List Val → Prop
  | [] => True
  | v :: vs => valC w r v ∧ valCL w r vs
end
theorem rawCL_iff {w : Wo} : ∀ {xs : List RawV}, rawCL w xs ↔ ∀ x ∈ xs, rawC w x
  | [] => ⟨(fun _ _ h => nomatch h), fun _ => trivial⟩
  | x :: xs => by
    show rawC w x ∧ rawCL w xs ↔ _
    rw [rawCL_iff (xs := xs)]
    constructor
    · intro h y hy
      rcases List.mem_cons.mp hy with rfl | hy
      · exact h.1
      · exact h.2 y hy
    · exact fun h => ⟨h x (List.mem_cons_self ..), fun y hy => h y (List.mem_cons_of_mem _ hy)⟩
theorem valCL_iff {w : Wo} {r : Ro} : ∀ {xs : List Val}, valCL w r xs ↔ ∀ x ∈ xs, valC w r x
  | [] => ⟨(fun _ _ h => nomatch h), fun _ => trivial⟩
  | x :: xs => by
    show valC w r x ∧ valCL w r xs ↔ _
    rw [valCL_iff (xs := xs)]
    constructor
    · intro h y hy
      rcases List.mem_cons.mp hy with rfl | hy
      · exact h.1
      · exact h.2 y hy
    · exact fun h => ⟨h x (List.mem_cons_self ..), fun y hy => h y (List.mem_cons_of_mem _ hy)⟩
/-! #### the writer -/
theorem wL_all {f : Val → List Key → Except WErr RawV} {P : RawV → Prop} : ∀ (vs : List Val) (i : Nat) (p : List Key) (ws : List RawV), (∀ v ∈ vs, ∀ p x, f v p = .ok x → P x) → wL f vs i p = .ok ws → ∀ x ∈ ws, P x
  | [], i, p, ws, _, e, x, hx => by cases e; cases hx
  | v :: vs, i, p, ws, h, e, x, hx => by
    rw [wL] at e
    split at e
    · cases e
    · rename_i w hw
      split at e
      · cases e
      · rename_i us hu
        cases e
        rcases List.mem_cons.mp hx with rfl | hx
        · exact h v (List.mem_cons_self ..) _ _ hw
        · exact wL_all vs (i + 1) p us (fun v hv => h v (List.mem_cons_of_mem _ hv)) hu x hx
theorem wP_all {f : Val → List Key → Except WErr RawV} {o : Wo} : ∀ (qs : List (Key × Val)) (p : List Key) (acc : List Str) (ws : List (Str × RawV)), wP f o qs p acc = .ok ws →
    ws.map (·.1) = qs.map (fun q => keyS q.1) ∧ ∀ z ∈ ws, ∃ q ∈ qs, ∃ p, f q.2 p = .ok z.2
  | [], p, acc, ws, e => by cases e; exact ⟨rfl, fun _ h => nomatch h⟩
  | q :: qs, p, acc, ws, e => by
    rw [wP] at e
    split at e
    · cases e
    · split at e
      · cases e
      · rename_i w hw
        split at e
        · cases e
        · rename_i us hu
          cases e
          obtain ⟨h1, h2⟩ := wP_all qs p _ us hu
          refine ⟨by rw [List.map_cons, List.map_cons, h1], fun z hz => ?_⟩
          rcases List.mem_cons.mp hz with rfl | hz
          · exact ⟨q, List.mem_cons_self .., _, hw⟩
          · obtain ⟨q', hq', g⟩ := h2 z hz
            exact ⟨q', List.mem_cons_of_mem _ hq', g⟩
theorem wK_nulls {o : Wo} (h : o.nulls = "skip") : ∀ (ps qs : List (Key × Val)), wK o ps = .ok qs → ∀ z ∈ qs, isNonV z.2 = false
  | [], qs, e, z, hz => by cases e; cases hz
  | q :: ps, qs, e, z, hz => by
    rw [wK] at e
    split at e
    · exact wK_nulls h ps qs e z hz
    · rename_i c
      split at e
      · cases e
      · split at e
        · cases e
        · rename_i rs hr
          have ih := wK_nulls h ps rs hr
          cases e
          have hq : isNonV q.2 = false := by
            cases hn : isNonV q.2 with
            | false => rfl
            | true => exact absurd ⟨hn, h⟩ c
          split at hz
          · rcases List.mem_cons.mp hz with rfl | hz
            · exact hq
            · exact ih z hz
          · exact ih z hz
theorem wrt_non {o : Wo} {n : Nat} {v : Val} {p : List Key} {x : RawV} (h : wrt o (n + 1) v p = .ok x) (hx : x = .non) : isNonV v = true := by
  subst hx
  cases v with
  | non => rfl
  | bl b => cases h
  | str z => cases h
  | int i =>
    have h : wI o i p = .ok .non := h
    unfold wI at h
    split at h
    · split at h <;> cases h
    · cases h
  | lst vs =>
    have h : wR (wrt o n) vs p = .ok .non := h
    unfold wR at h
    split at h <;> cases h
  | tup vs =>
    have h : (if o.tups = "refuse" then (.error ("tuple", p) : Except WErr RawV) else wR (wrt o n) vs p) = .ok .non := h
    split at h
    · cases h
    · unfold wR at h
      split at h <;> cases h
  | tab ks vs =>
    rw [wrt_tab] at h
    unfold wT at h
    split at h
    · cases h
    · split at h <;> cases h
theorem zip_fst_eq {ws : List (Str × RawV)} {z : RawV} (h : z ∈ ws.map (·.2)) : ∃ q ∈ ws, q.2 = z := by
  obtain ⟨q, hq, e⟩ := List.mem_map.mp h
  exact ⟨q, hq, e⟩
theorem wrt_raw {o : Wo} : ∀ (n : Nat) (v : Val) (p : List Key) (x : RawV), vdepth v < n → wrt o n v p = .ok x → rawC o x
  | 0, v, p, x, h, _ => absurd h (Nat.not_lt_zero _)
  | n + 1, v, p, x, hd, e => by
    have dp : ∀ vs : List Val, 1 + vdepthL vs < n + 1 → ∀ v ∈ vs, vdepth v < n := fun vs h v hv => by have := (wdL_mem hv).1; omega
    have row : ∀ vs, 1 + vdepthL vs < n + 1 → wR (wrt o n) vs p = .ok x → rawC o x := fun vs h e => by
      unfold wR at e
      split at e
      · cases e
      · rename_i ws hw
        cases e
        exact rawCL_iff.mpr (wL_all vs 0 p ws (fun v hv q y hy => wrt_raw n v q y (dp vs h v hv) hy) hw)
    cases v with
    | non => cases e; trivial
    | bl b => cases e; trivial
    | str z => cases e; trivial
    | int i =>
      have e : wI o i p = .ok x := e
      unfold wI at e
      split at e
      · split at e
        · cases e
        · cases e; trivial
      · rename_i c
        cases e
        intro hl
        exact Decidable.byContradiction fun n => c ⟨hl, n⟩
    | lst vs => exact row vs hd e
    | tup vs =>
      have e : (if o.tups = "refuse" then (.error ("tuple", p) : Except WErr RawV) else wR (wrt o n) vs p) = .ok x := e
      split at e
      · cases e
      · exact row vs hd e
    | tab ks vs =>
      rw [wrt_tab] at e
      unfold wT at e
      split at e
      · cases e
      · rename_i qs hq
        split at e
        · cases e
        · rename_i ws hw
          cases e
          obtain ⟨h1, h2⟩ := wP_all _ _ _ _ hw
          have mem : ∀ q ∈ wS o qs, q ∈ ks.zip vs := fun q hq' => (wK_sub _ _ hq).subset (wS_perm.mem_iff.mp hq')
          have vmem : ∀ q ∈ wS o qs, vdepth q.2 < n := fun q hq' => dp vs hd q.2 (List.of_mem_zip (show (q.1, q.2) ∈ _ from mem q hq')).2
          refine ⟨rawCL_iff.mpr fun y hy => ?_, fun hs y hy => ?_, fun hr => ?_⟩
          · obtain ⟨z, hz, rfl⟩ := zip_fst_eq hy
            obtain ⟨q, hq', p', e'⟩ := h2 z hz
            exact wrt_raw n q.2 p' z.2 (vmem q hq') e'
          · obtain ⟨z, hz, rfl⟩ := zip_fst_eq hy
            obtain ⟨q, hq', p', e'⟩ := h2 z hz
            intro hn
            have nn := wK_nulls hs _ _ hq q (wS_perm.mem_iff.mp hq')
            have lt := vmem q hq'
            cases n with
            | zero => exact absurd lt (Nat.not_lt_zero _)
            | succ n => rw [wrt_non e' hn] at nn; cases nn
          · rw [h1]
            have : wS o qs = isort ltE qs := by unfold wS; rw [if_pos hr]
            rw [this, List.pairwise_map]
            exact isort_pw
/-! #### the reader -/
theorem keyS_bkey {r : Ro} {z : Str} : keyS (bkey r z) = z := by
  unfold bkey
  split
  · rename_i h
    obtain ⟨n, e1, e2, _⟩ := digK_int h.2
    rw [e1]
    exact e2
  · rfl
theorem bkey_keyS {r : Ro} {z : Str} : bkey r (keyS (bkey r z)) = bkey r z := by rw [keyS_bkey]
/-- the entries found so far -/
structure AccC (w : Wo) (r : Ro) (ps : List (Key × Val)) (ns : List Str) : Prop where
  nd : ((pK ps).map keyS).Nodup
  nm : ∀ k ∈ pK ps, ∃ z, k = .inr z
  ok : ∀ q ∈ ps, valC w r q.2 ∧ (isNonV q.2 = true → w.nulls ≠ "skip")
  pw : w.order = "rising" → ((pK ps).map keyS ++ ns).Pairwise (fun x y => ltS y x = false)
theorem AccC.put {w : Wo} {r : Ro} {ps : List (Key × Val)} {ns : List Str} {n : Str} {v : Val} (h : AccC w r ps (n :: ns)) (hv : valC w r v ∧ (isNonV v = true → w.nulls ≠ "skip")) : AccC w r (putP (.inr n) v ps) ns := by
  have hk : pK (putP (.inr n) v ps) = if hasK (.inr n) (pK ps) = true then pK ps else pK ps ++ [.inr n] := by
    rw [putP_keys]; unfold kputN; rfl
  by_cases c : hasK (.inr n) (pK ps) = true
  · rw [if_pos c] at hk
    refine ⟨by rw [hk]; exact h.nd, by rw [hk]; exact h.nm, fun q hq => ?_, fun hr => ?_⟩
    · unfold putP at hq
      rw [if_pos c] at hq
      obtain ⟨q', hq', rfl⟩ := List.mem_map.mp hq
      dsimp only
      split
      · exact hv
      · exact h.ok q' hq'
    · rw [hk]
      exact (h.pw hr).sublist (List.Sublist.append (List.Sublist.refl _) (List.sublist_cons_self ..))
  · rw [if_neg c] at hk
    refine ⟨?_, ?_, fun q hq => ?_, fun hr => ?_⟩
    · rw [hk, List.map_append, List.nodup_append]
      refine ⟨h.nd, by simp, fun a ha b hb e => ?_⟩
      rw [List.map_singleton, List.mem_singleton] at hb
      subst e
      obtain ⟨k, hk', e2⟩ := List.mem_map.mp ha
      obtain ⟨z, rfl⟩ := h.nm k hk'
      have : z = n := e2.trans hb
      subst this
      exact c (hasK_iff.mpr hk')
    · rw [hk]
      intro k hk'
      rcases List.mem_append.mp hk' with hk' | hk'
      · exact h.nm k hk'
      · exact ⟨n, List.mem_singleton.mp hk'⟩
    · unfold putP at hq
      rw [if_neg c] at hq
      rcases List.mem_append.mp hq with hq | hq
      · exact h.ok q hq
      · rw [List.mem_singleton.mp hq]; exact hv
    · rw [hk, List.map_append, List.append_assoc]
      exact h.pw hr
theorem AccC.skip {w : Wo} {r : Ro} {ps : List (Key × Val)} {ns : List Str} {n : Str} (h : AccC w r ps (n :: ns)) : AccC w r ps ns :=
  ⟨h.nd, h.nm, h.ok, fun hr => (h.pw hr).sublist (List.Sublist.append (List.Sublist.refl _) (List.sublist_cons_self ..))⟩
theorem bfin_valC {w : Wo} {r : Ro} {ps : List (Key × Val)} (h : AccC w r ps []) : valC w r (bfin r ps) := by
  unfold bfin tabV
  generalize hl : ps.filter (fun q => !isNonV q.2 || decide (r.nulls = "keep")) = l
  have sb : l.Sublist ps := hl ▸ List.filter_sublist
  have ek : pK (l.map fun q => (bkey r (keyS q.1), q.2)) = (l.map (·.1)).map fun k => bkey r (keyS k) := by unfold pK; rw [List.map_map, List.map_map]; rfl
  have ev : pV (l.map fun q => (bkey r (keyS q.1), q.2)) = l.map (·.2) := by unfold pV; rw [List.map_map]; rfl
  have ek2 : (pK (l.map fun q => (bkey r (keyS q.1), q.2))).map keyS = (pK l).map keyS := by
    rw [ek, List.map_map]
    unfold pK
    apply List.map_congr_left
    intro k _
    exact keyS_bkey
  refine ⟨?_, ?_, ?_, ?_, ?_⟩
  · rw [ev]
    refine valCL_iff.mpr fun v hv => ?_
    obtain ⟨q, hq, rfl⟩ := List.mem_map.mp hv
    exact (h.ok q (sb.subset hq)).1
  · rw [ev]
    intro v hv hn
    obtain ⟨q, hq, rfl⟩ := List.mem_map.mp hv
    refine ⟨(h.ok q (sb.subset hq)).2 hn, ?_⟩
    rw [← hl] at hq
    have := (List.mem_filter.mp hq).2
    rw [hn] at this
    simpa using this
  · rw [ek]
    intro k hk
    obtain ⟨j, _, rfl⟩ := List.mem_map.mp hk
    exact bkey_keyS
  · rw [ek2]
    exact h.nd.sublist ((sb.map _).map _)
  · intro hr
    have := h.pw hr
    rw [List.append_nil] at this
    have t2 := this.sublist ((sb.map (·.1)).map keyS)
    rw [show (l.map (·.1)).map keyS = (pK l).map keyS from rfl, ← ek2, List.pairwise_map] at t2
    exact t2
mutual
theorem bld_valC {w : Wo} {r : Ro} : ∀ (x : RawV) (p : List Key) (v : Val), rawC w x → bldR r x p = .ok v → valC w r v ∧ (isNonV v = true → x = .non)
  | .non, p, v, _, e => by cases e; exact ⟨trivial, fun _ => rfl⟩
  | .bl b, p, v, _, e => by cases e; exact ⟨trivial, fun h => nomatch h⟩
  | .str z, p, v, _, e => by cases e; exact ⟨trivial, fun h => nomatch h⟩
  | .int i, p, v, h, e => by cases e; exact ⟨h, fun h => nomatch h⟩
  | .row xs, p, v, h, e => by
    rw [bldR] at e
    split at e
    · cases e
    · rename_i vs hv
      have := bldL_valC xs 0 p vs h hv
      cases e
      split
      · rename_i c; exact ⟨⟨c, this⟩, fun h => nomatch h⟩
      · rename_i c; exact ⟨⟨c, this⟩, fun h => nomatch h⟩
  | .tab ns xs, p, v, h, e => by
    rw [bldR] at e
    split at e
    · cases e
    · rename_i ps hp
      cases e
      refine ⟨bfin_valC (bldT_valC ns xs p [] ps h.1 h.2.1 ⟨List.nodup_nil, (fun _ h => nomatch h), (fun _ h => nomatch h), fun hr => h.2.2 hr⟩ hp), fun h => nomatch h⟩
theorem bldL_valC {w : Wo} {r : Ro} : ∀ (xs : List RawV) (i : Nat) (p : List Key) (vs : List Val), rawCL w xs → bldL r xs i p = .ok vs → valCL w r vs
  | [], i, p, vs, _, e => by rw [bldL] at e; cases e; trivial
  | x :: xs, i, p, vs, h, e => by
    rw [bldL] at e
    split at e
    · cases e
    · rename_i v hv
      split at e
      · cases e
      · rename_i us hu
        cases e
        exact ⟨(bld_valC x _ v h.1 hv).1, bldL_valC xs _ p us h.2 hu⟩
theorem bldT_valC {w : Wo} {r : Ro} : ∀ (ns : List Str) (xs : List RawV) (p : List Key) (acc ps : List (Key × Val)), rawCL w xs → (w.nulls = "skip" → ∀ x ∈ xs, x ≠ .non) → AccC w r acc ns → bldT r ns xs p acc = .ok ps → AccC w r ps []
  | [], xs, p, acc, ps, _, _, ha, e => by
    have : bldT r [] xs p acc = .ok acc := by cases xs <;> rw [bldT] <;> (intros; simp_all)
    rw [this] at e; cases e; exact ha
  | n :: ns, [], p, acc, ps, _, _, ha, e => by
    have : bldT r (n :: ns) [] p acc = .ok acc := by rw [bldT]; intros; simp_all
    rw [this] at e; cases e
    exact ⟨ha.nd, ha.nm, ha.ok, fun hr => by rw [List.append_nil]; exact (ha.pw hr).sublist (List.sublist_append_left ..)⟩
  | n :: ns, x :: xs, p, acc, ps, h, hn, ha, e => by
    rw [bldT] at e
    split at e
    · cases e
    · split at e
      · cases e
      · rename_i v hv
        obtain ⟨c1, c2⟩ := bld_valC x _ v h.1 hv
        refine bldT_valC ns xs p _ ps h.2 (fun hs y hy => hn hs y (List.mem_cons_of_mem _ hy)) ?_ e
        split
        · exact ha.put ⟨c1, fun z hs => hn hs x (List.mem_cons_self ..) (c2 z)⟩
        · exact ha.skip
end
/-! #### and once more -/
def Again (w : Wo) (r : Ro) (v : Val) : Prop := ∀ n p, vdepth v < n → ∃ x, wrt w n v p = .ok x ∧ ∀ q, bldR r x q = .ok v
theorem again_row {w : Wo} {r : Ro} {n : Nat} : ∀ (vs : List Val) (i : Nat) (p : List Key), (∀ v ∈ vs, Again w r v) → vdepthL vs < n → ∃ xs, wL (wrt w n) vs i p = .ok xs ∧ ∀ j q, bldL r xs j q = .ok vs
  | [], i, p, _, _ => ⟨[], rfl, fun j q => by rw [bldL]⟩
  | v :: vs, i, p, h, hd => by
    have hd : max (vdepth v) (vdepthL vs) < n := hd
    obtain ⟨x, e1, e2⟩ := h v (List.mem_cons_self ..) n (p ++ [.inl i]) (by omega)
    obtain ⟨xs, g1, g2⟩ := again_row (n := n) vs (i + 1) p (fun u hu => h u (List.mem_cons_of_mem _ hu)) (by omega)
    refine ⟨x :: xs, by rw [wL, e1]; dsimp only; rw [g1], fun j q => ?_⟩
    rw [bldL, e2]; dsimp only; rw [g2]
theorem again_ent {w : Wo} {r : Ro} {n : Nat} : ∀ (ps : List (Key × Val)) (p : List Key) (acc : List Str), (∀ q ∈ ps, Again w r q.2 ∧ vdepth q.2 < n) → (ps.map fun q => keyS q.1).Nodup → (∀ q ∈ ps, keyS q.1 ∉ acc) →
    ∃ ws, wP (wrt w n) w ps p acc = .ok ws ∧ ∀ q acc', (∀ z ∈ ps, (.inr (keyS z.1) : Key) ∉ pK acc') → bldT r (ws.map (·.1)) (ws.map (·.2)) q acc' = .ok (acc' ++ ps.map fun z => (.inr (keyS z.1), z.2))
  | [], p, acc, _, _, _ => ⟨[], rfl, fun q acc' _ => by rw [List.map_nil, List.map_nil, List.map_nil, List.append_nil]; rw [bldT] <;> (intros; simp_all)⟩
  | z :: ps, p, acc, h, nd, na => by
    rw [List.map_cons, List.nodup_cons] at nd
    obtain ⟨a1, a2⟩ := h z (List.mem_cons_self ..)
    obtain ⟨x, e1, e2⟩ := a1 n (p ++ [z.1]) a2
    obtain ⟨ws, g1, g2⟩ := again_ent ps p (acc ++ [keyS z.1]) (fun u hu => h u (List.mem_cons_of_mem _ hu)) nd.2 (fun q hq m => by
      rcases List.mem_append.mp m with m | m
      · exact na q (List.mem_cons_of_mem _ hq) m
      · exact nd.1 (List.mem_singleton.mp m ▸ List.mem_map.mpr ⟨q, hq, rfl⟩))
    refine ⟨(keyS z.1, x) :: ws, ?_, fun q acc' hn => ?_⟩
    · rw [wP, if_neg (fun c => na z (List.mem_cons_self ..) c.1), e1]; dsimp only; rw [g1]
    · have n0 : hasK (.inr (keyS z.1)) (pK acc') = false := by
        rw [← Bool.not_eq_true, hasK_iff]
        exact hn z (List.mem_cons_self ..)
      rw [List.map_cons, List.map_cons, bldT, if_neg (fun c => by rw [n0] at c; cases c.1), e2]
      dsimp only
      rw [if_pos (.inl n0), putP_new (hn z (List.mem_cons_self ..)), g2]
      · rw [List.map_cons, List.append_assoc]; rfl
      · intro y hy m
        have : pK (acc' ++ [((.inr (keyS z.1) : Key), z.2)]) = pK acc' ++ [.inr (keyS z.1)] := by unfold pK; rw [List.map_append]; rfl
        rw [this] at m
        rcases List.mem_append.mp m with m | m
        · exact hn y (List.mem_cons_of_mem _ hy) m
        · have := Sum.inr.inj (List.mem_singleton.mp m)
          exact nd.1 (this ▸ List.mem_map.mpr ⟨y, hy, rfl⟩)
theorem wK_keeps {o : Wo} : ∀ ps : List (Key × Val), (∀ q ∈ ps, ¬ (isNonV q.2 = true ∧ o.nulls = "skip") ∧ (isInl q.1 = true → o.keys = "text")) → wK o ps = .ok ps
  | [], _ => rfl
  | q :: ps, h => by
    obtain ⟨h1, h2⟩ := h q (List.mem_cons_self ..)
    rw [wK, if_neg h1, wK_keeps ps fun z hz => h z (List.mem_cons_of_mem _ hz)]
    by_cases c : isInl q.1 = true
    · rw [if_neg (fun z => by rw [h2 c] at z; simp [ofS_inj] at z)]
      dsimp only
      rw [if_pos (.inr (h2 c))]
    · rw [if_neg (fun z => c z.1)]
      dsimp only
      rw [if_pos (.inl (Bool.eq_false_iff.mpr c))]
theorem bkey_inl {r : Ro} {k : Key} (h : bkey r (keyS k) = k) (c : isInl k = true) : r.dig = "number" := by
  unfold bkey at h
  split at h
  · rename_i z; exact z.1
  · rw [← h] at c; cases c
mutual
theorem clean_again {w : Wo} {r : Ro} (hd : r.dig = "number" → w.keys = "text") (ht : r.lists = "tuple" → w.tups ≠ "refuse") : ∀ v, VOk v → valC w r v → Again w r v
  | .non, _, _ => fun n p h => by cases n with | zero => exact absurd h (Nat.not_lt_zero _) | succ n => exact ⟨.non, rfl, fun q => by rw [bldR]⟩
  | .bl b, _, _ => fun n p h => by cases n with | zero => exact absurd h (Nat.not_lt_zero _) | succ n => exact ⟨.bl b, rfl, fun q => by rw [bldR]⟩
  | .str z, _, _ => fun n p h => by cases n with | zero => exact absurd h (Nat.not_lt_zero _) | succ n => exact ⟨.str z, rfl, fun q => by rw [bldR]⟩
  | .int i, _, c => fun n p h => by
    cases n with
    | zero => exact absurd h (Nat.not_lt_zero _)
    | succ n =>
      refine ⟨.int i, ?_, fun q => by rw [bldR]⟩
      show wI w i p = _
      unfold wI
      rw [if_neg (fun z => z.2 (c z.1))]
  | .lst vs, ov, c => fun n p h => by
    cases n with
    | zero => exact absurd h (Nat.not_lt_zero _)
    | succ n =>
      have h : 1 + vdepthL vs < n + 1 := h
      obtain ⟨xs, e1, e2⟩ := again_row (n := n) vs 0 p (clean_all hd ht vs ov c.2) (by omega)
      refine ⟨.row xs, by show wR (wrt w n) vs p = _; unfold wR; rw [e1], fun q => ?_⟩
      rw [bldR, e2]; dsimp only; rw [if_neg c.1]
  | .tup vs, ov, c => fun n p h => by
    cases n with
    | zero => exact absurd h (Nat.not_lt_zero _)
    | succ n =>
      have h : 1 + vdepthL vs < n + 1 := h
      obtain ⟨xs, e1, e2⟩ := again_row (n := n) vs 0 p (clean_all hd ht vs ov c.2) (by omega)
      refine ⟨.row xs, ?_, fun q => ?_⟩
      · show (if w.tups = "refuse" then (.error ("tuple", p) : Except WErr RawV) else wR (wrt w n) vs p) = _
        rw [if_neg (ht c.1)]; unfold wR; rw [e1]
      · rw [bldR, e2]; dsimp only; rw [if_pos c.1]
  | .tab ks vs, ov, c => fun n p h => by
    cases n with
    | zero => exact absurd h (Nat.not_lt_zero _)
    | succ n =>
      have h : 1 + vdepthL vs < n + 1 := h
      obtain ⟨c1, c2, c3, c4, c5⟩ := c
      have l : ks.length = vs.length := ov.2.1
      have ek : (ks.zip vs).map (·.1) = ks := List.map_fst_zip (by omega)
      have evv : (ks.zip vs).map (·.2) = vs := List.map_snd_zip (by omega)
      have ekk : (ks.zip vs).map (fun q => keyS q.1) = ks.map keyS := by
        conv => rhs; rw [← ek]
        rw [List.map_map]; rfl
      have all := clean_all hd ht vs ov.1 c1
      have mem : ∀ q ∈ ks.zip vs, q.1 ∈ ks ∧ q.2 ∈ vs := fun q hq => List.of_mem_zip (show (q.1, q.2) ∈ _ from hq)
      have k1 : wK w (ks.zip vs) = .ok (ks.zip vs) := wK_keeps _ fun q hq => ⟨fun z => (c2 q.2 (mem q hq).2 z.1).1 z.2, fun z => hd (bkey_inl (c3 q.1 (mem q hq).1) z)⟩
      have k2 : wS w (ks.zip vs) = ks.zip vs := by
        unfold wS
        split
        · rename_i hr
          have := c5 hr
          rw [← ek, List.pairwise_map] at this
          exact isort_id this
        · rfl
      obtain ⟨ws, g1, g2⟩ := again_ent (w := w) (r := r) (n := n) (ks.zip vs) p [] (fun q hq => ⟨all q.2 (mem q hq).2, by have := (wdL_mem (mem q hq).2).1; omega⟩) (by rw [ekk]; exact c4) (fun _ _ h => nomatch h)
      refine ⟨.tab (ws.map (·.1)) (ws.map (·.2)), by rw [wrt_tab]; unfold wT; rw [k1]; dsimp only; rw [k2, g1], fun q => ?_⟩
      rw [bldR, g2 q [] (fun _ _ h => nomatch h)]
      dsimp only
      rw [List.nil_append]
      unfold bfin
      have f1 : ((ks.zip vs).map fun z => ((.inr (keyS z.1) : Key), z.2)).filter (fun q => !isNonV q.2 || decide (r.nulls = "keep")) = (ks.zip vs).map fun z => ((.inr (keyS z.1) : Key), z.2) := by
        refine List.filter_eq_self.mpr fun q hq => ?_
        obtain ⟨z, hz, rfl⟩ := List.mem_map.mp hq
        dsimp only
        cases hn : isNonV z.2 with
        | false => rfl
        | true => rw [decide_eq_true (c2 z.2 (mem z hz).2 hn).2]; rfl
      rw [f1, List.map_map]
      have f2 : (ks.zip vs).map ((fun q : Key × Val => (bkey r (keyS q.1), q.2)) ∘ fun z => ((.inr (keyS z.1) : Key), z.2)) = ks.zip vs := by
        conv => rhs; rw [← List.map_id (ks.zip vs)]
        refine List.map_congr_left fun z hz => ?_
        show (bkey r (keyS z.1), z.2) = z
        rw [c3 z.1 (mem z hz).1]
      rw [f2]
      unfold tabV pK pV
      rw [ek, evv]
theorem clean_all {w : Wo} {r : Ro} (hd : r.dig = "number" → w.keys = "text") (ht : r.lists = "tuple" → w.tups ≠ "refuse") : ∀ vs, VOkL vs → valCL w r vs → ∀ v ∈ vs, Again w r v
  | [], _, _ => fun _ h => nomatch h
  | v :: vs, ov, c => fun u hu => by
    rcases List.mem_cons.mp hu with e | hu
    · rw [e]; exact clean_again hd ht v ov.1 c.1
    · exact clean_all hd ht vs ov.2 c.2 u hu
end
theorem crry_get {w : Wo} {r : Ro} {v u : Val} (h : crry w r v = .ok u) : ∃ x, wrt w 62 v [] = .ok x ∧ bldR r x [] = .ok u := by
  unfold crry at h
  split at h
  · cases h
  · rename_i x e
    split at h
    · cases h
    · rename_i u' e2
      cases h
      exact ⟨x, e, e2⟩
theorem crry_mk {w : Wo} {r : Ro} {v u : Val} {x : RawV} (h : wrt w 62 v [] = .ok x) (g : bldR r x [] = .ok u) : crry w r v = .ok u := by
  unfold crry; rw [h]; dsimp only; rw [g]
theorem crry_clean {w : Wo} {r : Ro} {v u : Val} (dv : vdepth v ≤ 60) (h : crry w r v = .ok u) : valC w r u := by
  obtain ⟨x, e1, e2⟩ := crry_get h
  exact (bld_valC x [] u (wrt_raw 62 v [] x (by omega) e1) e2).1
/-- a settled passage: what comes back comes back as it is -/
theorem settled {w : Wo} {r : Ro} (hd : r.dig = "number" → w.keys = "text") (ht : r.lists = "tuple" → w.tups ≠ "refuse") {v u : Val} (ov : VOk v) (dv : vdepth v ≤ 60) (h : crry w r v = .ok u) : crry w r u = .ok u := by
  obtain ⟨a, b, _⟩ := crry_ok ov dv h
  obtain ⟨x, e1, e2⟩ := clean_again hd ht u a (crry_clean dv h) 62 [] (by omega)
  exact crry_mk e1 (e2 [])
/-! #### which passages are not settled -/
end KQ
namespace KQ
open PySem PySem.Spec PyProof.Rows L2 TL KB
/-! ### sorted(xs) of texts, any number of them -/
section
variable {prog : Program} {w : World} {A : Around} {E : Value → Shared → Prop} {s : Shared}
end
/-! ### k32's test of what came back -/
end KQ
namespace KQ
open PySem PySem.Spec PyProof.Rows L2 TL KB
/-! ### what can come back as one (k85) -/
mutual
def inv : Val → Val
  | .non => .non
  | .bl b => .bl b
  | .int i => .int i
  | .str z => .str z
  | .lst vs => .lst (invL vs)
  | .tup vs => .lst (invL vs)
  | .tab ks vs => .tab (ks.map fun k => .inr (keyS k)) (invL vs)
def invL : List Val → List Val
  | [] => []
  | v :: vs => inv v :: invL vs
end
/-! #### the pairs -/
/-! #### what each pair tells -/
section
variable {w : Wo} {r : Ro} (wo : WoOk w)
end
/-! #### the law's plain side -/
end KQ
namespace KQ
open PySem PySem.Spec PyProof.Rows L2 TL KB
/-! ### == of a tuple whose items are cells (k39) -/
def dw (S : Sto) : Tr → Tr
  | .tup xs => .tup (xs.map (vw S))
  | x => vw S x
section
variable {X : Cx} {K : PySem.W.Frag} {W : WX} {L : Lk} {F H I : Hp} {S : Sto}
end
end KQ
namespace KQ
open PySem PySem.Spec PyProof.Rows L2 TL KB
/-! ### C(e, .., k = v, ..): a class with a plain __init__, called by keywords in the parameters' order (k50, k97) -/
def uNewP (n m : Nat) (t : TSp) (ta tk : UA) : UE := fun ρ S Q X => ta ρ S (fun xs S1 => tk ρ S1 (fun zs S2 => xs.length = n ∧ zs.length = m ∧ t (xs ++ zs) S2 Q X) X) X
theorem q_uNewP {n m : Nat} {t : TSp} {ta tk : UA} {ρ : Rho} {S : Sto} {Q : QV} {X : QX} : uNewP n m t ta tk ρ S Q X = (ta ρ S (fun xs S1 => tk ρ S1 (fun zs S2 => xs.length = n ∧ zs.length = m ∧ t (xs ++ zs) S2 Q X) X) X) := rfl
section
variable {X : Cx} {W : WX} {k n : Nat} {x qual : Str} {C : Addr} {st : Stmt} {dvs : List V} {ks : List Str} {t : TSp} {kl : List Keyword} {e : Expr} {es : List Expr} {ta tk : UA} {p pos : Pos}
end
/-! ### x in l where both are data of any depth -/
/-! ### a list repeated that will change -/
def uRepC (ta tb : UE) : UE := fun ρ S Q X => ta ρ S (fun x S1 => tb ρ S1 (fun y S2 => ∃ xs k, vw S2 x = .lst xs ∧ vw S2 y = .int k ∧ -(2 ^ 63) ≤ k ∧ k < 2 ^ 63 ∧ xs.length * k.toNat ≤ sizeLine ∧ ∀ p, S2 p = none → Q (.ref p) (put S2 p (.lst (List.replicate k.toNat xs).flatten))) X) X
theorem q_uRepC {ta tb : UE} {ρ : Rho} {S : Sto} {Q : QV} {X : QX} : uRepC ta tb ρ S Q X = (ta ρ S (fun x S1 => tb ρ S1 (fun y S2 => ∃ xs k, vw S2 x = .lst xs ∧ vw S2 y = .int k ∧ -(2 ^ 63) ≤ k ∧ k < 2 ^ 63 ∧ xs.length * k.toNat ≤ sizeLine ∧ ∀ p, S2 p = none → Q (.ref p) (put S2 p (.lst (List.replicate k.toNat xs).flatten))) X) X) := rfl
end KQ
namespace KQ
open PySem PySem.Spec PyProof.Rows L2 TL KB
section
variable {fb : PySem.W.Frag → List Bool} {fn : List He5.DefA} {K : PySem.W.Frag}
theorem SaysB.fact (c : SaysB fb fn K) (i : Nat) {b : Bool} (h : (fb K)[i]? = some b) : b = true := by
  have c1 := (He.ba (show ((fb K).all id && fn.all fun d => d.ok K) = true from congrArg (fun z : AlB => z.1) c)).1
  exact List.all_eq_true.mp c1 b (List.mem_of_getElem? h)
theorem SaysB.at (c : SaysB fb fn K) (i : Nat) {p : Prop} [d : Decidable p] (h : (fb K)[i]? = some (decide p)) : p := of_decide_eq_true (c.fact i h)
theorem SaysB.def_ (c : SaysB fb fn K) (i : Nat) {d : He5.DefA} (h : fn[i]? = some d) : ∃ fd, FunD K d.name d.qual d.params d.body d.scope (d.dvs K) (d.kws K) (d.at_ K) fd := by
  have c2 := (He.ba (show ((fb K).all id && fn.all fun d => d.ok K) = true from congrArg (fun z : AlB => z.1) c)).2
  have e : fn.map (fun d => He5.fnA K (d.at_ K)) = fn.map He5.DefA.val := congrArg (fun z : AlB => z.2) c
  have e2 : (fn.map fun d => He5.fnA K (d.at_ K))[i]? = (fn.map He5.DefA.val)[i]? := by rw [e]
  rw [List.getElem?_map, List.getElem?_map, h] at e2
  exact He5.DefA.funD (Option.some.inj e2) (List.all_eq_true.mp c2 d (List.mem_of_getElem? h))
end
theorem oexB_ok {K : PySem.W.Frag} {C : Addr} (q : oexB K C = true) : ∃ nm q N bs bm sn sub ab col dd k0 k1 k2 k3 k5, K.lookup C = some (excClassObj nm q C N bs bm true sn sub ab col dd k0 k1 k2 k3 k5 "ValueError.__new__") ∧ PySem.HandSPX.refsVE bm = true := by
  unfold oexB at q
  split at q
  · rename_i dd cd sl ho
    split at q
    · rename_i C' bm k0 k1 k2 k3 n k5 hm hs
      simp only [Bool.and_eq_true, beq_iff_eq, Bool.not_eq_true'] at q
      obtain ⟨⟨⟨⟨rfl, rfl⟩, hdel⟩, hdc⟩, ht⟩ := q
      obtain ⟨nm, bs, mro, ns, qn, hd, sn, sub, ab, col, del⟩ := cd
      dsimp only at hm hdel hdc
      subst hm hdel hdc
      have hsl : sl = #[k0, k1, k2, k3, some (.builtin "ValueError.__new__"), k5] := by
        obtain ⟨l⟩ := sl
        simp only at hs
        rw [hs]
      subst hsl
      exact ⟨nm, qn, ns, bs, bm, sn, sub, ab, col, dd, k0, k1, k2, k3, k5, ho, ht⟩
    · cases q
  · cases q
theorem fun_of {K : PySem.W.Frag} {x q : Str} {st : Stmt} {f : Addr} {fd : FuncData} (F : FunD K x q (defArgs st) (defBody st) (defScope st) [] [] f fd) : Fun K x q st f fd := by
  obtain ⟨⟨oc, od, dV, kV, doc, pm, an, cdv, ct, osl, e, lk, hc, hd, hk⟩, kp⟩ := F
  rcases hd with ⟨_, rfl⟩ | ⟨h, _⟩
  · exact ⟨⟨oc, od, kV, doc, pm, an, cdv, ct, osl, e, lk, hc⟩, kp⟩
  · exact absurd rfl h
/-! constants of the module -/
mutual
def Cs.tr : Cs → Tr
  | .non => .non
  | .bl b => .bl b
  | .int n => .int n
  | .str z => .str z
  | .tup xs => .tup (Cs.trs xs)
def Cs.trs : List Cs → List Tr
  | [] => []
  | x :: xs => x.tr :: Cs.trs xs
end
mutual
theorem csB_ok {K : PySem.W.Frag} : ∀ (t : Cs) (u : Value), csB K t u = true → ∃ v, RelV v u ∧ ∀ I, Rep K I t.tr v
  | .non, u, h => by
    cases u with
    | none => exact ⟨.non, rfl, fun _ => rfl⟩
    | _ => cases h
  | .bl b, u, h => by
    cases u with
    | bool c => exact ⟨.bl b, by rw [eq_of_beq (show (b == c) = true from h)]; rfl, fun _ => rfl⟩
    | _ => cases h
  | .int n, u, h => by
    cases u with
    | int m t => exact ⟨.int n, ⟨t, by rw [of_decide_eq_true (show decide (n = m) = true from h)]⟩, fun _ => rfl⟩
    | _ => cases h
  | .str z, u, h => by
    cases u with
    | str m t => exact ⟨.str z, ⟨t, by rw [of_decide_eq_true (show decide (z = m) = true from h)]⟩, fun _ => rfl⟩
    | _ => cases h
  | .tup xs, u, h => by
    cases u with
    | ref a =>
      have h' : (match K.lookup a with
        | some ⟨.type c, _, .seq its _, _⟩ => decide (c = "tuple") && (decide (its.size ≤ sizeLine) && csL K xs its.toList)
        | _ => false) = true := h
      clear h
      split at h'
      · rename_i c d its n sl q
        obtain ⟨h1, h2⟩ := He.ba h'
        obtain ⟨h3, h4⟩ := He.ba h2
        obtain ⟨vs, r, hr⟩ := csL_ok xs its.toList h4
        have e1 : c = "tuple" := of_decide_eq_true h1
        subst e1
        exact ⟨.ref a, rfl, fun I => tup_rep (us := its.toList) (by rw [q]) r hr (by simpa using of_decide_eq_true h3) I⟩
      · cases h'
    | _ => cases h
theorem csL_ok {K : PySem.W.Frag} : ∀ (xs : List Cs) (us : List Value), csL K xs us = true → ∃ vs, Vals vs us ∧ ∀ I, RepL K I (Cs.trs xs) vs
  | [], us, h => by
    replace h : us.isEmpty = true := h
    rw [List.isEmpty_iff.mp h]
    exact ⟨[], .nil, fun _ => rfl⟩
  | x :: xs, us, h => by
    cases us with
    | nil => cases h
    | cons u us =>
      obtain ⟨h1, h2⟩ := He.ba (show (csB K x u && csL K xs us) = true from h)
      obtain ⟨v, r1, q1⟩ := csB_ok x u h1
      obtain ⟨vs, r2, q2⟩ := csL_ok xs us h2
      exact ⟨v :: vs, .cons r1 r2, fun I => .cons (q1 I) (q2 I)⟩
end
theorem gloB_ok {K : PySem.W.Frag} {h : Heap} {mg : Str → Option Value} {x : Str} {t : Cs} (X : K.In h) (G : h.Ns mainGlobals mg) (c : gloB K x t = true) : ∃ v u, mg x = some u ∧ RelV v u ∧ ∀ I, Rep K I t.tr v := by
  unfold gloB at c
  split at c
  · rename_i u e
    obtain ⟨v, r, q⟩ := csB_ok t u c
    exact ⟨v, u, PySem.W.mg_of X G e, r, q⟩
  · cases c
/-- a law's end over a head by facts, what it may let out by the world -/
theorem walk_ofW {l : PySem.W.OpenLaw} {n k : Nat} {q : Program} {loose : List Str} {XP : (Str → Option Value) → Heap → Prop} {YP : World → Heap → Prop} {d : DefRec} {CX : World → CXT} {x : Str}
    (hn : l.most = some n) (hn2 : n ≤ sizeLine) (hdf : d.params.defaults = []) (hr : Room k callerA)
    (F : ∀ (w : World) (mg : Str → Option Value) (fa : Addr) (h : Heap), YP w h → h.Ns mainGlobals mg → mg d.name = some (.ref fa) →
      ∃ (K : PySem.W.Frag) (fd : FuncData) (sp : Sp), K.In h ∧ (∀ (s : Shared) (u : Value), BindsTo s fd ⟨[u], []⟩ [(x, u)]) ∧
        (∀ (H : Hp) (a : Addr) (ns : List Int), ns.length ≤ n → Only H → SqL K H a (ns.map V.int) → sp [.ref a] H (fun v _ => v = .bl true) fun _ _ _ => False) ∧
        ∀ base : Heap, K.In base → base.Ns mainGlobals mg → FnOk l.prog w K mg base (CX w) k fa fd [x] sp)
    (hCX : ∀ (w : World) (H : Hp) (s : Shared) (e : Value) (s' : Shared), CX w [] H s (fun _ _ _ => False) e s' → False) :
    PySem.W.WalkO q loose XP YP l.row.toRowW d [] (fun f vs => PySem.call f vs) := by
  refine Att.attach_call hn hdf fun w s₀ s₁ mg mb fa o pm cd doc a vs ns G Y ho hd hcd hmg hobj hints hlen hg => ?_
  obtain ⟨K, fd, sp, KX, hb, hsp, hF⟩ := F w mg fa _ Y G.T.g hmg
  exact law_call KX G.T.g G.T.b G.T.builtins G.T.nolimit hg hobj hints (Nat.le_trans hlen hn2) hr hF hb (fun H hO hS => hsp H a ns hlen hO hS) fun H e s' => hCX w H s₁ e s'
end KQ
namespace KQ
open PySem PySem.Spec PyProof.Rows L2 TL KB
theorem tab_at {ts : List TabN} {w : World} {K : PySem.W.Frag} (h : tabW ts K = ts.map fun t => some (He.keysIn w.params t.2)) (i : Nat) {t : TabN} (e : ts[i]? = some t) : He.dicW K (He.ga K t.1) = some (He.keysIn w.params t.2) := by
  have e2 : (tabW ts K)[i]? = (ts.map fun t => some (He.keysIn w.params t.2))[i]? := by rw [h]
  unfold tabW at e2
  rw [List.getElem?_map, List.getElem?_map, e] at e2
  exact Option.some.inj e2
/-- a dict of the module, by its facts -/
theorem ktab_ok {K : PySem.W.Frag} {w : World} {h : Heap} {mg : Str → Option Value} {x : Str} {d : Addr} {kvs : List (Str × Cs)} {ks : List Str} (X : K.In h) (G : h.Ns mainGlobals mg) (g : PySem.W.nsIn K mainGlobals x = some (some (.ref d))) (t : He.dicW K d = some (He.keysIn w.params ks)) (hk : ks = kvs.map (·.1)) (b : tabB K d kvs = true) : KTab K w mg x (kvs.map fun q => (q.1, q.2.tr)) := by
  obtain ⟨es, n, D⟩ := He.dicW_ok t
  have e1 : He.dicW K d = some (es.toList.map He.keyOf) := by
    unfold He.dicW
    rw [D.at_]
    simp [D.low]
  rw [e1] at t
  have e2 : es.toList.map He.keyOf = He.keysIn w.params ks := Option.some.inj t
  have key : ∀ e ∈ es.toList, ∃ k t, k ∈ ks ∧ e.key = .str k t := fun e he => by
    have m : He.keyOf e ∈ He.keysIn w.params ks := by rw [← e2]; exact List.mem_map_of_mem he
    obtain ⟨k, hk, e3⟩ := List.mem_map.mp m
    unfold He.keyOf at e3
    split at e3
    · rename_i z t hz
      have e4 := Option.some.inj e3
      have e5 : k = z := (Prod.mk.inj e4).1
      exact ⟨k, t, hk, by rw [hz, e5]⟩
    · cases e3
  have noref : es.toList.any (·.refKey) = false := by
    rw [List.any_eq_false]
    intro e he
    obtain ⟨k, t, _, hz⟩ := key e he
    unfold DictEntry.refKey
    rw [hz]
    exact Bool.false_ne_true
  refine ⟨d, es, n, PySem.W.mg_of X G g, D, fun z => ?_⟩
  cases hl : (kvs.map fun q => (q.1, q.2.tr)).lookup z with
  | none =>
    refine .inl ⟨rfl, ?_⟩
    have nz : z ∉ ks := by
      rw [hk]
      intro hm
      obtain ⟨q, hq, rfl⟩ := List.mem_map.mp hm
      have := List.lookup_eq_none_iff.mp hl (q.1, q.2.tr) (List.mem_map.mpr ⟨q, hq, rfl⟩)
      simp at this
    unfold PySem.W.nsIn
    rw [D.at_]
    dsimp only
    have f : es.toList.find? (·.key.isStr z) = none := List.find?_eq_none.mpr fun e he => by
      obtain ⟨k, t, hk2, hz⟩ := key e he
      rw [hz]
      intro q
      have q2 : (k == z) = true := q
      exact nz ((eq_of_beq q2) ▸ hk2)
    rw [f, noref]
    rfl
  | some t =>
    obtain ⟨q, hq, e3⟩ : ∃ q ∈ kvs, (z, t) = (q.1, q.2.tr) := by
      have := List.lookup_eq_some_iff.mp hl
      obtain ⟨l1, l2, e, _⟩ := this
      have m : (z, t) ∈ kvs.map fun q => (q.1, q.2.tr) := by rw [e]; simp
      obtain ⟨q, hq, e⟩ := List.mem_map.mp m
      exact ⟨q, hq, e.symm⟩
    obtain ⟨rfl, rfl⟩ := Prod.mk.inj e3
    have b2 := List.all_eq_true.mp b q hq
    split at b2
    · rename_i u e4
      obtain ⟨v, r, q2⟩ := csB_ok q.2 u b2
      exact .inr ⟨_, u, v, rfl, e4, r, q2⟩
    · cases b2
end KQ

namespace K16
open PySem PySem.Spec PyProof.Rows L2 KB KQ
structure Adr where
  u : Unit := ()
  Scanner : Addr
  KeysError : Addr
  NotText : Addr
  TooDeep : Addr
structure Top (K : PySem.W.Frag) (mg : Str → Option Value) (A : Adr) : Prop where
  b : Bi mg
  d__law_more : Def K mg "_law_more" s__law_more
  d__law_draw : Def K mg "_law_draw" s__law_draw
  d__law_loose_sign : Def K mg "_law_loose_sign" s__law_loose_sign
  d__law_changed : Def K mg "_law_changed" s__law_changed
  d__law_number : Def K mg "_law_number" s__law_number
  d__law_sign : Def K mg "_law_sign" s__law_sign
  d__law_text : Def K mg "_law_text" s__law_text
  d__law_key : Def K mg "_law_key" s__law_key
  d__law_leaf : Def K mg "_law_leaf" s__law_leaf
  d__law_raw : Def K mg "_law_raw" s__law_raw
  d__law_raw_deep : Def K mg "_law_raw_deep" s__law_raw_deep
  m_Scanner_here : DefM K A.Scanner "here" "Scanner.here" s_Scanner_here []
  m_NotText___init__ : DefM K A.NotText "__init__" "NotText.__init__" s_NotText___init__ []
  m_Scanner_expect : DefM K A.Scanner "expect" "Scanner.expect" s_Scanner_expect []
  m_Scanner_read_string : DefM K A.Scanner "read_string" "Scanner.read_string" s_Scanner_read_string []
  m_Scanner_skip_blanks : DefM K A.Scanner "skip_blanks" "Scanner.skip_blanks" s_Scanner_skip_blanks []
  m_TooDeep___init__ : DefM K A.TooDeep "__init__" "TooDeep.__init__" s_TooDeep___init__ []
  m_Scanner_read_number : DefM K A.Scanner "read_number" "Scanner.read_number" s_Scanner_read_number []
  m_Scanner_read_word : DefM K A.Scanner "read_word" "Scanner.read_word" s_Scanner_read_word []
  m_Scanner_read_member : DefM K A.Scanner "read_member" "Scanner.read_member" s_Scanner_read_member []
  m_Scanner_read_members : DefM K A.Scanner "read_members" "Scanner.read_members" s_Scanner_read_members []
  m_Scanner_read_value : DefM K A.Scanner "read_value" "Scanner.read_value" s_Scanner_read_value []
  m_Scanner___init__ : DefM K A.Scanner "__init__" "Scanner.__init__" s_Scanner___init__ []
  d_parse : Def K mg "parse" s_parse
  d__law_read : Def K mg "_law_read" s__law_read
  d__law_after : Def K mg "_law_after" s__law_after
  d__law_begin : Def K mg "_law_begin" s__law_begin
  d__law_inside : Def K mg "_law_inside" s__law_inside
  d__law_token : Def K mg "_law_token" s__law_token
  d__law_step : Def K mg "_law_step" s__law_step
  d__law_scanned : Def K mg "_law_scanned" s__law_scanned
  d__law_source : Def K mg "_law_source" s__law_source
  d__law_spaced : Def K mg "_law_spaced" s__law_spaced
  d__law_squeezed : Def K mg "_law_squeezed" s__law_squeezed
  d__law_own_string : Def K mg "_law_own_string" s__law_own_string
  d__law_tokens : Def K mg "_law_tokens" s__law_tokens
  d_render_string : Def K mg "render_string" s_render_string
  d_render : Def K mg "render" s_render
  d_law : Def K mg "law" s_law
  c_Scanner : ClsTop K mg "Scanner" A.Scanner
  c_KeysError : XTop mg "KeysError" A.KeysError
  c_NotText : XTop mg "NotText" A.NotText
  c_TooDeep : XTop mg "TooDeep" A.TooDeep
  ox_NotText : OexC K A.NotText
  ox_TooDeep : OexC K A.TooDeep
  f_Scanner_text : ClsF K A.Scanner "text"
  f_Scanner_at : ClsF K A.Scanner "at"
  f_Scanner_depth : ClsF K A.Scanner "depth"
  k_NoneType_Scanner : PySem.W.kitOne K (.type "NoneType") (.ref A.Scanner) = some false
  k_bool_Scanner : PySem.W.kitOne K (.type "bool") (.ref A.Scanner) = some false
  k_Scanner_bool : PySem.W.kitOne K (.ref A.Scanner) (.type "bool") = some false
  k_int_Scanner : PySem.W.kitOne K (.type "int") (.ref A.Scanner) = some false
  k_Scanner_int : PySem.W.kitOne K (.ref A.Scanner) (.type "int") = some false
  k_str_Scanner : PySem.W.kitOne K (.type "str") (.ref A.Scanner) = some false
  k_Scanner_str : PySem.W.kitOne K (.ref A.Scanner) (.type "str") = some false
  k_list_Scanner : PySem.W.kitOne K (.type "list") (.ref A.Scanner) = some false
  k_Scanner_list : PySem.W.kitOne K (.ref A.Scanner) (.type "list") = some false
  k_tuple_Scanner : PySem.W.kitOne K (.type "tuple") (.ref A.Scanner) = some false
  k_Scanner_tuple : PySem.W.kitOne K (.ref A.Scanner) (.type "tuple") = some false
  k_dict_Scanner : PySem.W.kitOne K (.type "dict") (.ref A.Scanner) = some false
  k_Scanner_Scanner : PySem.W.kitOne K (.ref A.Scanner) (.ref A.Scanner) = some true
  xc_NotText : ExcC K A.NotText
  nf_NotText_position : PySem.W.findIn K (.ref A.NotText) "position" = some none
  em_NotText_KeysError : PySem.W.exmOne K (.ref A.NotText) (.ref A.KeysError) = some true
  em_NotText_NotText : PySem.W.exmOne K (.ref A.NotText) (.ref A.NotText) = some true
  em_NotText_TooDeep : PySem.W.exmOne K (.ref A.NotText) (.ref A.TooDeep) = some false
  xc_TooDeep : ExcC K A.TooDeep
  nf_TooDeep_position : PySem.W.findIn K (.ref A.TooDeep) "position" = some none
  em_TooDeep_KeysError : PySem.W.exmOne K (.ref A.TooDeep) (.ref A.KeysError) = some true
  em_TooDeep_NotText : PySem.W.exmOne K (.ref A.TooDeep) (.ref A.NotText) = some false
  em_TooDeep_TooDeep : PySem.W.exmOne K (.ref A.TooDeep) (.ref A.TooDeep) = some true
  g_MOST_DIGITS : ∃ v u, mg "MOST_DIGITS" = some u ∧ RelV v u ∧ ∀ I, Rep K I (.int 30) v
  g_DEEPEST : ∃ v u, mg "DEEPEST" = some u ∧ RelV v u ∧ ∀ I, Rep K I (.int 60) v
theorem Top.facts {K : PySem.W.Frag} {mg : Str → Option Value} {A : Adr} (T : Top K mg A) : ClsI K A.Scanner ∧ ClsF K A.Scanner "text" ∧ ClsF K A.Scanner "at" ∧ ClsF K A.Scanner "depth" ∧ PySem.W.kitOne K (.type "NoneType") (.ref A.Scanner) = some false ∧ PySem.W.kitOne K (.type "bool") (.ref A.Scanner) = some false ∧ PySem.W.kitOne K (.ref A.Scanner) (.type "bool") = some false ∧ PySem.W.kitOne K (.type "int") (.ref A.Scanner) = some false ∧ PySem.W.kitOne K (.ref A.Scanner) (.type "int") = some false ∧ PySem.W.kitOne K (.type "str") (.ref A.Scanner) = some false ∧ PySem.W.kitOne K (.ref A.Scanner) (.type "str") = some false ∧ PySem.W.kitOne K (.type "list") (.ref A.Scanner) = some false ∧ PySem.W.kitOne K (.ref A.Scanner) (.type "list") = some false ∧ PySem.W.kitOne K (.type "tuple") (.ref A.Scanner) = some false ∧ PySem.W.kitOne K (.ref A.Scanner) (.type "tuple") = some false ∧ PySem.W.kitOne K (.type "dict") (.ref A.Scanner) = some false ∧ PySem.W.kitOne K (.ref A.Scanner) (.ref A.Scanner) = some true ∧ ExcC K A.NotText ∧ PySem.W.findIn K (.ref A.NotText) "position" = some none ∧ PySem.W.exmOne K (.ref A.NotText) (.ref A.KeysError) = some true ∧ PySem.W.exmOne K (.ref A.NotText) (.ref A.NotText) = some true ∧ PySem.W.exmOne K (.ref A.NotText) (.ref A.TooDeep) = some false ∧ ExcC K A.TooDeep ∧ PySem.W.findIn K (.ref A.TooDeep) "position" = some none ∧ PySem.W.exmOne K (.ref A.TooDeep) (.ref A.KeysError) = some true ∧ PySem.W.exmOne K (.ref A.TooDeep) (.ref A.NotText) = some false ∧ PySem.W.exmOne K (.ref A.TooDeep) (.ref A.TooDeep) = some true :=
  ⟨T.c_Scanner.ci, T.f_Scanner_text, T.f_Scanner_at, T.f_Scanner_depth, T.k_NoneType_Scanner, T.k_bool_Scanner, T.k_Scanner_bool, T.k_int_Scanner, T.k_Scanner_int, T.k_str_Scanner, T.k_Scanner_str, T.k_list_Scanner, T.k_Scanner_list, T.k_tuple_Scanner, T.k_Scanner_tuple, T.k_dict_Scanner, T.k_Scanner_Scanner, T.xc_NotText, T.nf_NotText_position, T.em_NotText_KeysError, T.em_NotText_NotText, T.em_NotText_TooDeep, T.xc_TooDeep, T.nf_TooDeep_position, T.em_TooDeep_KeysError, T.em_TooDeep_NotText, T.em_TooDeep_TooDeep⟩
class KTabs (K : PySem.W.Frag) (w : World) (mg : Str → Option Value) : Prop where
  WORDS : KTab K w mg "WORDS" [("n", .tup [.str "null", .non]), ("t", .tup [.str "true", .bl true]), ("f", .tup [.str "false", .bl false])]
theorem e_g_MOST_DIGITS {X : Cx} {W : WX} {A : Adr} {pos : Pos} (T : Top X.K X.mg A) (hg : Gl X "MOST_DIGITS" := by rfl) : TPE X W (.Name "MOST_DIGITS" pos) (uC (.int 30)) := e_gt hg T.g_MOST_DIGITS
theorem e_g_DEEPEST {X : Cx} {W : WX} {A : Adr} {pos : Pos} (T : Top X.K X.mg A) (hg : Gl X "DEEPEST" := by rfl) : TPE X W (.Name "DEEPEST" pos) (uC (.int 60)) := e_gt hg T.g_DEEPEST
local macro_rules | `(tactic| walk_at "vc") => `(tactic| try simp only [KQ.q_uVar, KQ.q_uC, KQ.q_u2, KQ.q_uOp, KQ.q_uUn, KQ.q_uB, KQ.q_uAnd, KQ.q_uOr, KQ.q_uNot, KQ.q_uAndV, KQ.q_uOrV, KQ.q_uNotV, KQ.q_uIf, KQ.q_uNil, KQ.q_uCons, KQ.q_uTup, KQ.q_uLst, KQ.q_uLstC, KQ.q_uCb, KQ.q_uNext, KQ.q_uSeq, KQ.q_uBreak, KQ.q_uCont, KQ.q_uCut, KQ.q_uDrop, KQ.q_uRet, KQ.q_uRetN, KQ.q_uIfS, KQ.q_uNever, KQ.q_uSet, KQ.q_uAsg, KQ.q_uPar, KQ.q_uAug, KQ.q_uFor, KQ.q_uSeqI, KQ.q_uCall, KQ.q_uYes, KQ.q_uLc, KQ.q_uLcC, KQ.q_uPart, KQ.q_uNoPart, KQ.q_uSl, KQ.q_uIsi2, KQ.q_uRng1, KQ.q_uRng2, KQ.q_uStrI, KQ.q_uEnum, KQ.q_uFld, KQ.q_uSFld, KQ.q_uDPut, KQ.q_uLPut, KQ.q_uFrz, KQ.q_uMt, KQ.q_uMm, KQ.q_uForD, KQ.q_uLcD, KQ.q_uMeth, KQ.q_uDNew, KQ.q_uFldAug, KQ.q_uDisp, KQ.q_uIsi1, KQ.q_uOBin, KQ.q_uOIx, KQ.q_uOIn, KQ.q_uOLen, KQ.q_uTry, KQ.q_uXf, KQ.q_uIsE, KQ.q_uRaise, KQ.q_uCallK, KQ.q_uLcX, KQ.q_uNewK, KQ.q_uOEq, KQ.q_uListC, KQ.q_uRev, KQ.q_uEnum2, KQ.q_uZip, KQ.q_uAddC, KQ.q_uFs, KQ.q_uOBin2, KQ.q_uOInv, KQ.q_uCallO, KQ.q_uSrt, KQ.q_uSet0, KQ.q_uSAdd, KQ.q_uSIn, KQ.q_uChain, KQ.q_uKGet, KQ.q_uTryF, KQ.q_uMethZ, KQ.q_uTryZ, KQ.q_uCallC, KQ.q_uNewKL, KQ.q_uMatch, KQ.q_uKIx, KQ.q_uRep2, KQ.vw_refE, KQ.vw_non, KQ.vw_bl, KQ.vw_int, KQ.vw_str, KQ.vw_ty, KQ.vw_lstE, KQ.vw_tupE, KQ.vw_scrE, KQ.vw_dicE, KQ.vw_insE, KQ.put_sameE, KQ.put_putE, KQ.getD_some, KQ.pat_nm, KQ.pat_tp, KQ.pats_nil, KQ.pats_cons, KQ.bind_s, KQ.loop_nil, KQ.loop_cons, KQ.lcl_nil, KQ.lcl_cons, KQ.prs_nil, KQ.prs_cons, KQ.add_ii, KQ.add_ss, KQ.add_ll, KQ.add_tt, KQ.sortr_l, KQ.les_ss, KQ.int2_ii, KQ.mul_ii, KQ.mul_li, KQ.mul2_ii, KQ.mul2_li, KQ.mul2_si, KQ.js_nil, KQ.js_cons, KQ.fmt_s, KQ.fmt_n, KQ.fmt_0s, KQ.fmt_0i, KQ.neg_i, KQ.is_g, KQ.isk_n, KQ.isk_b, KQ.is_nn, KQ.is_bn, KQ.is_in, KQ.is_sn, KQ.is_rn, KQ.is_ln, KQ.is_tn, KQ.is_dn, KQ.is_on, KQ.is_nb, KQ.is_bb, KQ.is_ib, KQ.is_sb, KQ.is_rb, KQ.is_lb, KQ.is_tb, KQ.is_ob, KQ.eq_ii, KQ.eq_ss, KQ.eq_bb, KQ.ix_s, KQ.ix_l, KQ.ix_t, KQ.ix_c, KQ.ix_d, KQ.key_i, KQ.key_s, KQ.at_0, KQ.at_1, KQ.at_2, KQ.in_s, KQ.in_l, KQ.in_t, KQ.in_d, KQ.fl_i, KQ.fl_s, KQ.fl_b, KQ.fl_n, KQ.len_s, KQ.len_l, KQ.len_c, KQ.len_t, KQ.len_d, KQ.abs_i, KQ.int_i, KQ.int_b, KQ.int_s, KQ.str_i, KQ.str_s, KQ.mm_ii, KQ.list_l, KQ.list_t, KQ.list_c, KQ.tuple_l, KQ.tuple_t, KQ.sl_s, KQ.sl_l, KQ.sl_t, KQ.sl_c, KQ.asl_l, KQ.asl_c, KQ.asl_t, KQ.ok_l, KQ.ok_s, KQ.app_1, KQ.ext_1, KQ.ins_1, KQ.pop_1, KQ.join_t, KQ.join_l, KQ.isdig, KQ.rmp, KQ.all_l, KQ.isi_2, KQ.ty_n, KQ.ty_b, KQ.ty_i, KQ.ty_s, KQ.ty_l, KQ.ty_t, KQ.ty_o, KQ.cls_t, KQ.cls_c, KQ.k_ni, KQ.k_ns, KQ.k_nb, KQ.k_nl, KQ.k_nt, KQ.k_bi, KQ.k_bs, KQ.k_bb, KQ.k_bl, KQ.k_bt, KQ.k_ii, KQ.k_is, KQ.k_ib, KQ.k_il, KQ.k_it, KQ.k_si, KQ.k_ss, KQ.k_sb, KQ.k_sl, KQ.k_st, KQ.k_li, KQ.k_ls, KQ.k_lb, KQ.k_ll, KQ.k_lt, KQ.k_ti, KQ.k_ts, KQ.k_tb, KQ.k_tl, KQ.k_tt, KQ.ofS_inj, KQ.fget_c, KQ.fget_n, KQ.fputN_n, KQ.fputN_c, KQ.fputX_n, KQ.fputX_c, KQ.map_vw0, KQ.map_vw, KQ.xFrmE, KQ.hX_nil, KQ.hX_only, KQ.hX_named, KQ.len_tf1, KQ.len_tf2, KQ.len_tf3, KQ.clrU_nx, KQ.clrU_rt, KQ.clrU_bk, KQ.clrU_ct, KQ.vw_excE, KQ.atR_e, KQ.wipeR_n, KQ.wipeR_c, KQ.endX_e, KQ.endU_nx, KQ.endU_rt, KQ.srcV_e, KQ.srcF_e, KQ.cmul_rE, KQ.cmul_lE, KQ.cpow_E, KQ.szT0, KQ.szT1, KQ.szT2, KQ.szT3, KQ.szT4, KQ.szT5, KQ.szT6, KQ.szT7, KQ.szT8, KQ.szT0, KQ.ex_sw1, KQ.ex_sw2, KQ.kT_i, KQ.kT_s, KQ.sgn_inj, KQ.vw_kT, KQ.beq_ft, KQ.beq_tf, KQ.pick_nilE, KQ.pick_0E, KQ.pick_1E, KQ.pick_2E, KQ.str4_i, KQ.str4_s, KQ.str4_b, KQ.str4_n, KQ.list3_l, KQ.list3_t, KQ.list3_c, KQ.list3_d, KQ.seqOf_l, KQ.seqOf_t, KQ.seqOf_c, KQ.seqOf_d, KQ.lenE0, KQ.lenE1, KQ.lenE2, KQ.lenE3, KQ.lenE4, KQ.lenE5, KQ.lenE6, KQ.lenE7, KQ.lenE8, KQ.lenE9, KQ.lenE10, KQ.lenS0, KQ.lenS1, KQ.lenS2, KQ.lenS3, KQ.lenS4, KQ.lenS5, KQ.lenS6, KQ.lenS7, KQ.lenS8, KQ.lenS9, KQ.lenS10, KQ.mapS_nil, KQ.mapS_cons, KQ.nil_l, KQ.eqF_g, KQ.eq_nn, KQ.eq_ns, KQ.eq_sn, KQ.eq_ni, KQ.eq_in, KQ.eq_is, KQ.eq_si, KQ.popAt_1, KQ.ix3_0, KQ.ix3_1, KQ.ix3_2, KQ.q_qCell, KQ.strp, KQ.upr, KQ.q_uCv, KQ.q_rep4, KQ.q_uAsgL, KQ.q_uPar3, KQ.q_uCases0, KQ.q_uCases1, Option.isSome_none, Option.isSome_some, and_assoc, decide_true, decide_false, eq_self, not_true_eq_false, not_false_eq_true, reduceCtorEq, exists_false, or_false, false_or, false_and, and_false, true_and, and_true, true_or, or_true, if_true, if_false, Bool.false_xor, Bool.true_xor, Bool.not_eq_true', decide_eq_false_iff_not, decide_eq_true_eq, Bool.false_eq_true, Bool.not_true, Bool.not_false, ite_true, ite_false, exists_const, List.set_cons_zero, List.set_cons_succ, List.getElem?_cons_zero, List.getElem?_cons_succ, Option.some.injEq, KQ.Tr.int.injEq, KQ.Tr.ref.injEq, KQ.Tr.bl.injEq, KQ.Tr.str.injEq, KQ.Tr.lst.injEq, KQ.Tr.tup.injEq, KQ.Tr.dic.injEq, KQ.Tr.ins.injEq, KQ.Tr.scr.injEq, KQ.Tr.exc.injEq, exists_eq_left', exists_eq_left, exists_eq_right, exists_eq_right', exists_eq, exists_eq', exists_and_left, exists_and_right, List.cons_append, List.nil_append, List.cons.injEq, Int.reduceLT, Int.reduceLE, Int.reduceNeg, Int.reducePow, Int.reduceEq, Int.reduceAdd, Int.reduceSub, Int.reduceMul, KQ.ofS_inj, String.reduceEq, forall_const, false_imp_iff, implies_true, exists_prop, PySem.Value.type.injEq, PySem.Value.ref.injEq, beq_self_eq_true, Bool.or_true, Bool.or_false, Bool.true_or, Bool.false_or, Bool.or_self, forall_eq, forall_eq', and_imp, List.length_map, List.length_append, List.isEmpty_nil, List.isEmpty_cons, KQ.sget_cells, KQ.sget_at, KQ.sget_rest, KQ.sget_seed, KQ.sget_room, KQ.sget_long, KQ.sput_at, KQ.sput_rest, KQ.sput_seed, KQ.sput_room, KQ.sput_long, KQ.sN_at, KQ.sN_rest, KQ.sN_seed, KQ.sN_room, KQ.sN_long, KQ.sk_len, KQ.s5get_cells, KQ.s5get_at, KQ.s5get_rest, KQ.s5get_seed, KQ.s5get_room, KQ.s5put_at, KQ.s5put_rest, KQ.s5put_seed, KQ.s5N_at, KQ.s5N_rest, KQ.s5N_seed, KQ.s5k_len, KQ.srcT5_eq, KQ.srcT_eq, KQ.vw_vT, KQ.vw_mT, KQ.q_plN, KQ.vw_labT, KQ.vw_nM, KQ.vw_payT, KQ.vw_seenT, KQ.vw_runT, KQ.vw_progT, KQ.vw_outR, KQ.vw_psT, KQ.vw_psO, KQ.q_uNewP, KQ.q_uRepC, *])
local macro_rules | `(tactic| walk_at "vn") => `(tactic| try simp only [KQ.q_uVar, KQ.q_uC, KQ.q_u2, KQ.q_uOp, KQ.q_uUn, KQ.q_uB, KQ.q_uAnd, KQ.q_uOr, KQ.q_uNot, KQ.q_uAndV, KQ.q_uOrV, KQ.q_uNotV, KQ.q_uIf, KQ.q_uNil, KQ.q_uCons, KQ.q_uTup, KQ.q_uLst, KQ.q_uLstC, KQ.q_uCb, KQ.q_uNext, KQ.q_uSeq, KQ.q_uBreak, KQ.q_uCont, KQ.q_uCut, KQ.q_uDrop, KQ.q_uRet, KQ.q_uRetN, KQ.q_uIfS, KQ.q_uNever, KQ.q_uSet, KQ.q_uAsg, KQ.q_uPar, KQ.q_uAug, KQ.q_uFor, KQ.q_uSeqI, KQ.q_uCall, KQ.q_uYes, KQ.q_uLc, KQ.q_uLcC, KQ.q_uPart, KQ.q_uNoPart, KQ.q_uSl, KQ.q_uIsi2, KQ.q_uRng1, KQ.q_uRng2, KQ.q_uStrI, KQ.q_uEnum, KQ.q_uFld, KQ.q_uSFld, KQ.q_uDPut, KQ.q_uLPut, KQ.q_uFrz, KQ.q_uMt, KQ.q_uMm, KQ.q_uForD, KQ.q_uLcD, KQ.q_uMeth, KQ.q_uDNew, KQ.q_uFldAug, KQ.q_uDisp, KQ.q_uIsi1, KQ.q_uOBin, KQ.q_uOIx, KQ.q_uOIn, KQ.q_uOLen, KQ.q_uTry, KQ.q_uXf, KQ.q_uIsE, KQ.q_uRaise, KQ.q_uCallK, KQ.q_uLcX, KQ.q_uNewK, KQ.q_uOEq, KQ.q_uListC, KQ.q_uRev, KQ.q_uEnum2, KQ.q_uZip, KQ.q_uAddC, KQ.q_uFs, KQ.q_uOBin2, KQ.q_uOInv, KQ.q_uCallO, KQ.q_uSrt, KQ.q_uSet0, KQ.q_uSAdd, KQ.q_uSIn, KQ.q_uChain, KQ.q_uKGet, KQ.q_uTryF, KQ.q_uMethZ, KQ.q_uTryZ, KQ.q_uCallC, KQ.q_uNewKL, KQ.q_uMatch, KQ.q_uKIx, KQ.q_uRep2, KQ.vw_refE, KQ.vw_non, KQ.vw_bl, KQ.vw_int, KQ.vw_str, KQ.vw_ty, KQ.vw_lstE, KQ.vw_tupE, KQ.vw_scrE, KQ.vw_dicE, KQ.vw_insE, KQ.put_sameE, KQ.put_putE, KQ.getD_some, KQ.pat_nm, KQ.pat_tp, KQ.pats_nil, KQ.pats_cons, KQ.bind_s, KQ.loop_nil, KQ.lcl_nil, KQ.lcl_cons, KQ.prs_nil, KQ.prs_cons, KQ.add_ii, KQ.add_ss, KQ.add_ll, KQ.add_tt, KQ.sortr_l, KQ.les_ss, KQ.int2_ii, KQ.mul_ii, KQ.mul_li, KQ.mul2_ii, KQ.mul2_li, KQ.mul2_si, KQ.js_nil, KQ.js_cons, KQ.fmt_s, KQ.fmt_n, KQ.fmt_0s, KQ.fmt_0i, KQ.neg_i, KQ.is_g, KQ.isk_n, KQ.isk_b, KQ.is_nn, KQ.is_bn, KQ.is_in, KQ.is_sn, KQ.is_rn, KQ.is_ln, KQ.is_tn, KQ.is_dn, KQ.is_on, KQ.is_nb, KQ.is_bb, KQ.is_ib, KQ.is_sb, KQ.is_rb, KQ.is_lb, KQ.is_tb, KQ.is_ob, KQ.eq_ii, KQ.eq_ss, KQ.eq_bb, KQ.ix_s, KQ.ix_l, KQ.ix_t, KQ.ix_c, KQ.ix_d, KQ.key_i, KQ.key_s, KQ.at_0, KQ.at_1, KQ.at_2, KQ.in_s, KQ.in_l, KQ.in_t, KQ.in_d, KQ.fl_i, KQ.fl_s, KQ.fl_b, KQ.fl_n, KQ.len_s, KQ.len_l, KQ.len_c, KQ.len_t, KQ.len_d, KQ.abs_i, KQ.int_i, KQ.int_b, KQ.int_s, KQ.str_i, KQ.str_s, KQ.mm_ii, KQ.list_l, KQ.list_t, KQ.list_c, KQ.tuple_l, KQ.tuple_t, KQ.sl_s, KQ.sl_l, KQ.sl_t, KQ.sl_c, KQ.asl_l, KQ.asl_c, KQ.asl_t, KQ.ok_l, KQ.ok_s, KQ.app_1, KQ.ext_1, KQ.ins_1, KQ.pop_1, KQ.join_t, KQ.join_l, KQ.isdig, KQ.rmp, KQ.all_l, KQ.isi_2, KQ.ty_n, KQ.ty_b, KQ.ty_i, KQ.ty_s, KQ.ty_l, KQ.ty_t, KQ.ty_o, KQ.cls_t, KQ.cls_c, KQ.k_ni, KQ.k_ns, KQ.k_nb, KQ.k_nl, KQ.k_nt, KQ.k_bi, KQ.k_bs, KQ.k_bb, KQ.k_bl, KQ.k_bt, KQ.k_ii, KQ.k_is, KQ.k_ib, KQ.k_il, KQ.k_it, KQ.k_si, KQ.k_ss, KQ.k_sb, KQ.k_sl, KQ.k_st, KQ.k_li, KQ.k_ls, KQ.k_lb, KQ.k_ll, KQ.k_lt, KQ.k_ti, KQ.k_ts, KQ.k_tb, KQ.k_tl, KQ.k_tt, KQ.ofS_inj, KQ.fget_c, KQ.fget_n, KQ.fputN_n, KQ.fputN_c, KQ.fputX_n, KQ.fputX_c, KQ.map_vw0, KQ.map_vw, KQ.xFrmE, KQ.hX_nil, KQ.hX_only, KQ.hX_named, KQ.len_tf1, KQ.len_tf2, KQ.len_tf3, KQ.clrU_nx, KQ.clrU_rt, KQ.clrU_bk, KQ.clrU_ct, KQ.vw_excE, KQ.atR_e, KQ.wipeR_n, KQ.wipeR_c, KQ.endX_e, KQ.endU_nx, KQ.endU_rt, KQ.srcV_e, KQ.srcF_e, KQ.cmul_rE, KQ.cmul_lE, KQ.cpow_E, KQ.szT0, KQ.szT1, KQ.szT2, KQ.szT3, KQ.szT4, KQ.szT5, KQ.szT6, KQ.szT7, KQ.szT8, KQ.szT0, KQ.ex_sw1, KQ.ex_sw2, KQ.kT_i, KQ.kT_s, KQ.sgn_inj, KQ.vw_kT, KQ.beq_ft, KQ.beq_tf, KQ.pick_nilE, KQ.pick_0E, KQ.pick_1E, KQ.pick_2E, KQ.str4_i, KQ.str4_s, KQ.str4_b, KQ.str4_n, KQ.list3_l, KQ.list3_t, KQ.list3_c, KQ.list3_d, KQ.seqOf_l, KQ.seqOf_t, KQ.seqOf_c, KQ.seqOf_d, KQ.lenE0, KQ.lenE1, KQ.lenE2, KQ.lenE3, KQ.lenE4, KQ.lenE5, KQ.lenE6, KQ.lenE7, KQ.lenE8, KQ.lenE9, KQ.lenE10, KQ.lenS0, KQ.lenS1, KQ.lenS2, KQ.lenS3, KQ.lenS4, KQ.lenS5, KQ.lenS6, KQ.lenS7, KQ.lenS8, KQ.lenS9, KQ.lenS10, KQ.mapS_nil, KQ.mapS_cons, KQ.nil_l, KQ.eqF_g, KQ.eq_nn, KQ.eq_ns, KQ.eq_sn, KQ.eq_ni, KQ.eq_in, KQ.eq_is, KQ.eq_si, KQ.popAt_1, KQ.ix3_0, KQ.ix3_1, KQ.ix3_2, KQ.q_qCell, KQ.strp, KQ.upr, KQ.q_uCv, KQ.q_rep4, KQ.q_uAsgL, KQ.q_uPar3, KQ.q_uCases0, KQ.q_uCases1, Option.isSome_none, Option.isSome_some, and_assoc, decide_true, decide_false, eq_self, not_true_eq_false, not_false_eq_true, reduceCtorEq, exists_false, or_false, false_or, false_and, and_false, true_and, and_true, true_or, or_true, if_true, if_false, Bool.false_xor, Bool.true_xor, Bool.not_eq_true', decide_eq_false_iff_not, decide_eq_true_eq, Bool.false_eq_true, Bool.not_true, Bool.not_false, ite_true, ite_false, exists_const, List.set_cons_zero, List.set_cons_succ, List.getElem?_cons_zero, List.getElem?_cons_succ, Option.some.injEq, KQ.Tr.int.injEq, KQ.Tr.ref.injEq, KQ.Tr.bl.injEq, KQ.Tr.str.injEq, KQ.Tr.lst.injEq, KQ.Tr.tup.injEq, KQ.Tr.dic.injEq, KQ.Tr.ins.injEq, KQ.Tr.scr.injEq, KQ.Tr.exc.injEq, exists_eq_left', exists_eq_left, exists_eq_right, exists_eq_right', exists_eq, exists_eq', exists_and_left, exists_and_right, List.cons_append, List.nil_append, List.cons.injEq, Int.reduceLT, Int.reduceLE, Int.reduceNeg, Int.reducePow, Int.reduceEq, Int.reduceAdd, Int.reduceSub, Int.reduceMul, KQ.ofS_inj, String.reduceEq, forall_const, false_imp_iff, implies_true, exists_prop, PySem.Value.type.injEq, PySem.Value.ref.injEq, beq_self_eq_true, Bool.or_true, Bool.or_false, Bool.true_or, Bool.false_or, Bool.or_self, forall_eq, forall_eq', and_imp, List.length_map, List.length_append, List.isEmpty_nil, List.isEmpty_cons, KQ.sget_cells, KQ.sget_at, KQ.sget_rest, KQ.sget_seed, KQ.sget_room, KQ.sget_long, KQ.sput_at, KQ.sput_rest, KQ.sput_seed, KQ.sput_room, KQ.sput_long, KQ.sN_at, KQ.sN_rest, KQ.sN_seed, KQ.sN_room, KQ.sN_long, KQ.sk_len, KQ.s5get_cells, KQ.s5get_at, KQ.s5get_rest, KQ.s5get_seed, KQ.s5get_room, KQ.s5put_at, KQ.s5put_rest, KQ.s5put_seed, KQ.s5N_at, KQ.s5N_rest, KQ.s5N_seed, KQ.s5k_len, KQ.srcT5_eq, KQ.srcT_eq, KQ.vw_vT, KQ.vw_mT, KQ.q_plN, KQ.vw_labT, KQ.vw_nM, KQ.vw_payT, KQ.vw_seenT, KQ.vw_runT, KQ.vw_progT, KQ.vw_outR, KQ.vw_psT, KQ.vw_psO, KQ.q_uNewP, KQ.q_uRepC, *])
local macro_rules | `(tactic| walk_at "vm") => `(tactic| try simp only [KQ.q_uVar, KQ.q_uC, KQ.q_u2, KQ.q_uOp, KQ.q_uUn, KQ.q_uB, KQ.q_uAnd, KQ.q_uOr, KQ.q_uNot, KQ.q_uAndV, KQ.q_uOrV, KQ.q_uNotV, KQ.q_uIf, KQ.q_uNil, KQ.q_uCons, KQ.q_uTup, KQ.q_uLst, KQ.q_uLstC, KQ.q_uCb, KQ.q_uNext, KQ.q_uSeq, KQ.q_uBreak, KQ.q_uCont, KQ.q_uCut, KQ.q_uDrop, KQ.q_uRet, KQ.q_uRetN, KQ.q_uIfS, KQ.q_uNever, KQ.q_uSet, KQ.q_uAsg, KQ.q_uPar, KQ.q_uAug, KQ.q_uFor, KQ.q_uSeqI, KQ.q_uCall, KQ.q_uYes, KQ.q_uLc, KQ.q_uLcC, KQ.q_uPart, KQ.q_uNoPart, KQ.q_uSl, KQ.q_uIsi2, KQ.q_uRng1, KQ.q_uRng2, KQ.q_uStrI, KQ.q_uEnum, KQ.q_uFld, KQ.q_uSFld, KQ.q_uDPut, KQ.q_uLPut, KQ.q_uFrz, KQ.q_uMt, KQ.q_uMm, KQ.q_uForD, KQ.q_uLcD, KQ.q_uMeth, KQ.q_uDNew, KQ.q_uFldAug, KQ.q_uDisp, KQ.q_uIsi1, KQ.q_uOBin, KQ.q_uOIx, KQ.q_uOIn, KQ.q_uOLen, KQ.q_uTry, KQ.q_uXf, KQ.q_uIsE, KQ.q_uRaise, KQ.q_uCallK, KQ.q_uLcX, KQ.q_uNewK, KQ.q_uOEq, KQ.q_uListC, KQ.q_uRev, KQ.q_uEnum2, KQ.q_uZip, KQ.q_uAddC, KQ.q_uFs, KQ.q_uOBin2, KQ.q_uOInv, KQ.q_uCallO, KQ.q_uSrt, KQ.q_uSet0, KQ.q_uSAdd, KQ.q_uSIn, KQ.q_uChain, KQ.q_uKGet, KQ.q_uTryF, KQ.q_uMethZ, KQ.q_uTryZ, KQ.q_uCallC, KQ.q_uNewKL, KQ.q_uMatch, KQ.q_uKIx, KQ.q_uRep2, KQ.vw_refE, KQ.vw_non, KQ.vw_bl, KQ.vw_int, KQ.vw_str, KQ.vw_ty, KQ.vw_lstE, KQ.vw_tupE, KQ.vw_scrE, KQ.vw_dicE, KQ.vw_insE, KQ.put_sameE, KQ.put_putE, KQ.getD_some, KQ.pat_nm, KQ.pat_tp, KQ.pats_nil, KQ.pats_cons, KQ.bind_s, KQ.loop_nil, KQ.lcl_nil, KQ.prs_nil, KQ.prs_cons, KQ.add_ii, KQ.add_ss, KQ.add_ll, KQ.add_tt, KQ.sortr_l, KQ.les_ss, KQ.int2_ii, KQ.mul_ii, KQ.mul_li, KQ.mul2_ii, KQ.mul2_li, KQ.mul2_si, KQ.js_nil, KQ.js_cons, KQ.fmt_s, KQ.fmt_n, KQ.fmt_0s, KQ.fmt_0i, KQ.neg_i, KQ.is_g, KQ.isk_n, KQ.isk_b, KQ.is_nn, KQ.is_bn, KQ.is_in, KQ.is_sn, KQ.is_rn, KQ.is_ln, KQ.is_tn, KQ.is_dn, KQ.is_on, KQ.is_nb, KQ.is_bb, KQ.is_ib, KQ.is_sb, KQ.is_rb, KQ.is_lb, KQ.is_tb, KQ.is_ob, KQ.eq_ii, KQ.eq_ss, KQ.eq_bb, KQ.ix_s, KQ.ix_l, KQ.ix_t, KQ.ix_c, KQ.ix_d, KQ.key_i, KQ.key_s, KQ.at_0, KQ.at_1, KQ.at_2, KQ.in_s, KQ.in_l, KQ.in_t, KQ.in_d, KQ.fl_i, KQ.fl_s, KQ.fl_b, KQ.fl_n, KQ.len_s, KQ.len_l, KQ.len_c, KQ.len_t, KQ.len_d, KQ.abs_i, KQ.int_i, KQ.int_b, KQ.int_s, KQ.str_i, KQ.str_s, KQ.mm_ii, KQ.list_l, KQ.list_t, KQ.list_c, KQ.tuple_l, KQ.tuple_t, KQ.sl_s, KQ.sl_l, KQ.sl_t, KQ.sl_c, KQ.asl_l, KQ.asl_c, KQ.asl_t, KQ.ok_l, KQ.ok_s, KQ.app_1, KQ.ext_1, KQ.ins_1, KQ.pop_1, KQ.join_t, KQ.join_l, KQ.isdig, KQ.rmp, KQ.all_l, KQ.isi_2, KQ.ty_n, KQ.ty_b, KQ.ty_i, KQ.ty_s, KQ.ty_l, KQ.ty_t, KQ.ty_o, KQ.cls_t, KQ.cls_c, KQ.k_ni, KQ.k_ns, KQ.k_nb, KQ.k_nl, KQ.k_nt, KQ.k_bi, KQ.k_bs, KQ.k_bb, KQ.k_bl, KQ.k_bt, KQ.k_ii, KQ.k_is, KQ.k_ib, KQ.k_il, KQ.k_it, KQ.k_si, KQ.k_ss, KQ.k_sb, KQ.k_sl, KQ.k_st, KQ.k_li, KQ.k_ls, KQ.k_lb, KQ.k_ll, KQ.k_lt, KQ.k_ti, KQ.k_ts, KQ.k_tb, KQ.k_tl, KQ.k_tt, KQ.ofS_inj, KQ.fget_c, KQ.fget_n, KQ.fputN_n, KQ.fputN_c, KQ.fputX_n, KQ.fputX_c, KQ.map_vw0, KQ.map_vw, KQ.xFrmE, KQ.hX_nil, KQ.hX_only, KQ.hX_named, KQ.len_tf1, KQ.len_tf2, KQ.len_tf3, KQ.clrU_nx, KQ.clrU_rt, KQ.clrU_bk, KQ.clrU_ct, KQ.vw_excE, KQ.atR_e, KQ.wipeR_n, KQ.wipeR_c, KQ.endX_e, KQ.endU_nx, KQ.endU_rt, KQ.srcV_e, KQ.srcF_e, KQ.cmul_rE, KQ.cmul_lE, KQ.cpow_E, KQ.szT0, KQ.szT1, KQ.szT2, KQ.szT3, KQ.szT4, KQ.szT5, KQ.szT6, KQ.szT7, KQ.szT8, KQ.szT0, KQ.ex_sw1, KQ.ex_sw2, KQ.kT_i, KQ.kT_s, KQ.sgn_inj, KQ.vw_kT, KQ.beq_ft, KQ.beq_tf, KQ.pick_nilE, KQ.pick_0E, KQ.pick_1E, KQ.pick_2E, KQ.str4_i, KQ.str4_s, KQ.str4_b, KQ.str4_n, KQ.list3_l, KQ.list3_t, KQ.list3_c, KQ.list3_d, KQ.seqOf_l, KQ.seqOf_t, KQ.seqOf_c, KQ.seqOf_d, KQ.lenE0, KQ.lenE1, KQ.lenE2, KQ.lenE3, KQ.lenE4, KQ.lenE5, KQ.lenE6, KQ.lenE7, KQ.lenE8, KQ.lenE9, KQ.lenE10, KQ.lenS0, KQ.lenS1, KQ.lenS2, KQ.lenS3, KQ.lenS4, KQ.lenS5, KQ.lenS6, KQ.lenS7, KQ.lenS8, KQ.lenS9, KQ.lenS10, KQ.mapS_nil, KQ.mapS_cons, KQ.nil_l, KQ.eqF_g, KQ.eq_nn, KQ.eq_ns, KQ.eq_sn, KQ.eq_ni, KQ.eq_in, KQ.eq_is, KQ.eq_si, KQ.popAt_1, KQ.ix3_0, KQ.ix3_1, KQ.ix3_2, KQ.q_qCell, KQ.strp, KQ.upr, KQ.q_uCv, KQ.q_rep4, KQ.q_uAsgL, KQ.q_uPar3, KQ.q_uCases0, KQ.q_uCases1, Option.isSome_none, Option.isSome_some, and_assoc, decide_true, decide_false, eq_self, not_true_eq_false, not_false_eq_true, reduceCtorEq, exists_false, or_false, false_or, false_and, and_false, true_and, and_true, true_or, or_true, if_true, if_false, Bool.false_xor, Bool.true_xor, Bool.not_eq_true', decide_eq_false_iff_not, decide_eq_true_eq, Bool.false_eq_true, Bool.not_true, Bool.not_false, ite_true, ite_false, exists_const, List.set_cons_zero, List.set_cons_succ, List.getElem?_cons_zero, List.getElem?_cons_succ, Option.some.injEq, KQ.Tr.int.injEq, KQ.Tr.ref.injEq, KQ.Tr.bl.injEq, KQ.Tr.str.injEq, KQ.Tr.lst.injEq, KQ.Tr.tup.injEq, KQ.Tr.dic.injEq, KQ.Tr.ins.injEq, KQ.Tr.scr.injEq, KQ.Tr.exc.injEq, exists_eq_left', exists_eq_left, exists_eq_right, exists_eq_right', exists_eq, exists_eq', exists_and_left, exists_and_right, List.cons_append, List.nil_append, List.cons.injEq, Int.reduceLT, Int.reduceLE, Int.reduceNeg, Int.reducePow, Int.reduceEq, Int.reduceAdd, Int.reduceSub, Int.reduceMul, KQ.ofS_inj, String.reduceEq, forall_const, false_imp_iff, implies_true, exists_prop, PySem.Value.type.injEq, PySem.Value.ref.injEq, beq_self_eq_true, Bool.or_true, Bool.or_false, Bool.true_or, Bool.false_or, Bool.or_self, forall_eq, forall_eq', and_imp, List.length_map, List.length_append, List.isEmpty_nil, List.isEmpty_cons, KQ.sget_cells, KQ.sget_at, KQ.sget_rest, KQ.sget_seed, KQ.sget_room, KQ.sget_long, KQ.sput_at, KQ.sput_rest, KQ.sput_seed, KQ.sput_room, KQ.sput_long, KQ.sN_at, KQ.sN_rest, KQ.sN_seed, KQ.sN_room, KQ.sN_long, KQ.sk_len, KQ.s5get_cells, KQ.s5get_at, KQ.s5get_rest, KQ.s5get_seed, KQ.s5get_room, KQ.s5put_at, KQ.s5put_rest, KQ.s5put_seed, KQ.s5N_at, KQ.s5N_rest, KQ.s5N_seed, KQ.s5k_len, KQ.srcT5_eq, KQ.srcT_eq, KQ.vw_vT, KQ.vw_mT, KQ.q_plN, KQ.vw_labT, KQ.vw_nM, KQ.vw_payT, KQ.vw_seenT, KQ.vw_runT, KQ.vw_progT, KQ.vw_outR, KQ.vw_psT, KQ.vw_psO, KQ.q_uNewP, KQ.q_uRepC, *])
local macro_rules | `(tactic| walk_at "vl") => `(tactic| try simp only [KQ.q_uVar, KQ.q_uC, KQ.q_u2, KQ.q_uOp, KQ.q_uUn, KQ.q_uB, KQ.q_uAnd, KQ.q_uOr, KQ.q_uNot, KQ.q_uAndV, KQ.q_uOrV, KQ.q_uNotV, KQ.q_uIf, KQ.q_uNil, KQ.q_uCons, KQ.q_uTup, KQ.q_uLst, KQ.q_uLstC, KQ.q_uCb, KQ.q_uNext, KQ.q_uSeq, KQ.q_uBreak, KQ.q_uCont, KQ.q_uCut, KQ.q_uDrop, KQ.q_uRet, KQ.q_uRetN, KQ.q_uIfS, KQ.q_uNever, KQ.q_uSet, KQ.q_uAsg, KQ.q_uPar, KQ.q_uAug, KQ.q_uFor, KQ.q_uSeqI, KQ.q_uCall, KQ.q_uYes, KQ.q_uLc, KQ.q_uLcC, KQ.q_uPart, KQ.q_uNoPart, KQ.q_uSl, KQ.q_uIsi2, KQ.q_uRng1, KQ.q_uRng2, KQ.q_uStrI, KQ.q_uEnum, KQ.q_uFld, KQ.q_uSFld, KQ.q_uDPut, KQ.q_uLPut, KQ.q_uFrz, KQ.q_uMt, KQ.q_uMm, KQ.q_uForD, KQ.q_uLcD, KQ.q_uMeth, KQ.q_uDNew, KQ.q_uFldAug, KQ.q_uDisp, KQ.q_uIsi1, KQ.q_uOBin, KQ.q_uOIx, KQ.q_uOIn, KQ.q_uOLen, KQ.q_uTry, KQ.q_uXf, KQ.q_uIsE, KQ.q_uRaise, KQ.q_uCallK, KQ.q_uLcX, KQ.q_uNewK, KQ.q_uOEq, KQ.q_uListC, KQ.q_uRev, KQ.q_uEnum2, KQ.q_uZip, KQ.q_uAddC, KQ.q_uFs, KQ.q_uOBin2, KQ.q_uOInv, KQ.q_uCallO, KQ.q_uSrt, KQ.q_uSet0, KQ.q_uSAdd, KQ.q_uSIn, KQ.q_uChain, KQ.q_uKGet, KQ.q_uTryF, KQ.q_uMethZ, KQ.q_uTryZ, KQ.q_uCallC, KQ.q_uNewKL, KQ.q_uMatch, KQ.q_uKIx, KQ.q_uRep2, KQ.vw_refE, KQ.vw_non, KQ.vw_bl, KQ.vw_int, KQ.vw_str, KQ.vw_ty, KQ.vw_lstE, KQ.vw_tupE, KQ.vw_scrE, KQ.vw_dicE, KQ.vw_insE, KQ.put_sameE, KQ.put_putE, KQ.getD_some, KQ.pat_nm, KQ.pat_tp, KQ.pats_nil, KQ.pats_cons, KQ.bind_s, KQ.loop_nil, KQ.lcl_nil, KQ.lcl_cons, KQ.prs_nil, KQ.prs_cons, KQ.add_ii, KQ.add_ss, KQ.add_ll, KQ.add_tt, KQ.sortr_l, KQ.les_ss, KQ.int2_ii, KQ.mul_ii, KQ.mul_li, KQ.mul2_ii, KQ.mul2_li, KQ.mul2_si, KQ.js_nil, KQ.js_cons, KQ.fmt_s, KQ.fmt_n, KQ.fmt_0s, KQ.fmt_0i, KQ.neg_i, KQ.is_g, KQ.isk_n, KQ.isk_b, KQ.is_nn, KQ.is_bn, KQ.is_in, KQ.is_sn, KQ.is_rn, KQ.is_ln, KQ.is_tn, KQ.is_dn, KQ.is_on, KQ.is_nb, KQ.is_bb, KQ.is_ib, KQ.is_sb, KQ.is_rb, KQ.is_lb, KQ.is_tb, KQ.is_ob, KQ.eq_ii, KQ.eq_ss, KQ.eq_bb, KQ.ix_s, KQ.ix_l, KQ.ix_t, KQ.ix_c, KQ.ix_d, KQ.key_i, KQ.key_s, KQ.at_0, KQ.at_1, KQ.at_2, KQ.in_s, KQ.in_l, KQ.in_t, KQ.in_d, KQ.fl_i, KQ.fl_s, KQ.fl_b, KQ.fl_n, KQ.len_s, KQ.len_l, KQ.len_c, KQ.len_t, KQ.len_d, KQ.abs_i, KQ.int_i, KQ.int_b, KQ.int_s, KQ.str_i, KQ.str_s, KQ.mm_ii, KQ.list_l, KQ.list_t, KQ.list_c, KQ.tuple_l, KQ.tuple_t, KQ.sl_s, KQ.sl_l, KQ.sl_t, KQ.sl_c, KQ.asl_l, KQ.asl_c, KQ.asl_t, KQ.ok_l, KQ.ok_s, KQ.app_1, KQ.ext_1, KQ.ins_1, KQ.pop_1, KQ.join_t, KQ.join_l, KQ.isdig, KQ.rmp, KQ.all_l, KQ.isi_2, KQ.ty_n, KQ.ty_b, KQ.ty_i, KQ.ty_s, KQ.ty_l, KQ.ty_t, KQ.ty_o, KQ.cls_t, KQ.cls_c, KQ.k_ni, KQ.k_ns, KQ.k_nb, KQ.k_nl, KQ.k_nt, KQ.k_bi, KQ.k_bs, KQ.k_bb, KQ.k_bl, KQ.k_bt, KQ.k_ii, KQ.k_is, KQ.k_ib, KQ.k_il, KQ.k_it, KQ.k_si, KQ.k_ss, KQ.k_sb, KQ.k_sl, KQ.k_st, KQ.k_li, KQ.k_ls, KQ.k_lb, KQ.k_ll, KQ.k_lt, KQ.k_ti, KQ.k_ts, KQ.k_tb, KQ.k_tl, KQ.k_tt, KQ.ofS_inj, KQ.fget_c, KQ.fget_n, KQ.fputN_n, KQ.fputN_c, KQ.fputX_n, KQ.fputX_c, KQ.map_vw0, KQ.map_vw, KQ.xFrmE, KQ.hX_nil, KQ.hX_only, KQ.hX_named, KQ.len_tf1, KQ.len_tf2, KQ.len_tf3, KQ.clrU_nx, KQ.clrU_rt, KQ.clrU_bk, KQ.clrU_ct, KQ.vw_excE, KQ.atR_e, KQ.wipeR_n, KQ.wipeR_c, KQ.endX_e, KQ.endU_nx, KQ.endU_rt, KQ.srcV_e, KQ.srcF_e, KQ.cmul_rE, KQ.cmul_lE, KQ.cpow_E, KQ.szT0, KQ.szT1, KQ.szT2, KQ.szT3, KQ.szT4, KQ.szT5, KQ.szT6, KQ.szT7, KQ.szT8, KQ.szT0, KQ.ex_sw1, KQ.ex_sw2, KQ.kT_i, KQ.kT_s, KQ.sgn_inj, KQ.vw_kT, KQ.beq_ft, KQ.beq_tf, KQ.pick_nilE, KQ.pick_0E, KQ.pick_1E, KQ.pick_2E, KQ.str4_i, KQ.str4_s, KQ.str4_b, KQ.str4_n, KQ.list3_l, KQ.list3_t, KQ.list3_c, KQ.list3_d, KQ.seqOf_l, KQ.seqOf_t, KQ.seqOf_c, KQ.seqOf_d, KQ.lenE0, KQ.lenE1, KQ.lenE2, KQ.lenE3, KQ.lenE4, KQ.lenE5, KQ.lenE6, KQ.lenE7, KQ.lenE8, KQ.lenE9, KQ.lenE10, KQ.lenS0, KQ.lenS1, KQ.lenS2, KQ.lenS3, KQ.lenS4, KQ.lenS5, KQ.lenS6, KQ.lenS7, KQ.lenS8, KQ.lenS9, KQ.lenS10, KQ.mapS_nil, KQ.mapS_cons, KQ.nil_l, KQ.eqF_g, KQ.eq_nn, KQ.eq_ns, KQ.eq_sn, KQ.eq_ni, KQ.eq_in, KQ.eq_is, KQ.eq_si, KQ.popAt_1, KQ.ix3_0, KQ.ix3_1, KQ.ix3_2, KQ.q_qCell, KQ.strp, KQ.upr, KQ.q_uCv, KQ.q_rep4, KQ.q_uAsgL, KQ.q_uPar3, KQ.q_uCases0, KQ.q_uCases1, Option.isSome_none, Option.isSome_some, and_assoc, decide_true, decide_false, eq_self, not_true_eq_false, not_false_eq_true, reduceCtorEq, exists_false, or_false, false_or, false_and, and_false, true_and, and_true, true_or, or_true, if_true, if_false, Bool.false_xor, Bool.true_xor, Bool.not_eq_true', decide_eq_false_iff_not, decide_eq_true_eq, Bool.false_eq_true, Bool.not_true, Bool.not_false, ite_true, ite_false, exists_const, List.set_cons_zero, List.set_cons_succ, List.getElem?_cons_zero, List.getElem?_cons_succ, Option.some.injEq, KQ.Tr.int.injEq, KQ.Tr.ref.injEq, KQ.Tr.bl.injEq, KQ.Tr.str.injEq, KQ.Tr.lst.injEq, KQ.Tr.tup.injEq, KQ.Tr.dic.injEq, KQ.Tr.ins.injEq, KQ.Tr.scr.injEq, KQ.Tr.exc.injEq, exists_eq_left', exists_eq_left, exists_eq_right, exists_eq_right', exists_eq, exists_eq', exists_and_left, exists_and_right, List.cons_append, List.nil_append, List.cons.injEq, Int.reduceLT, Int.reduceLE, Int.reduceNeg, Int.reducePow, Int.reduceEq, Int.reduceAdd, Int.reduceSub, Int.reduceMul, KQ.ofS_inj, String.reduceEq, forall_const, false_imp_iff, implies_true, exists_prop, PySem.Value.type.injEq, PySem.Value.ref.injEq, beq_self_eq_true, Bool.or_true, Bool.or_false, Bool.true_or, Bool.false_or, Bool.or_self, forall_eq, forall_eq', and_imp, List.length_map, List.length_append, List.isEmpty_nil, List.isEmpty_cons, KQ.sget_cells, KQ.sget_at, KQ.sget_rest, KQ.sget_seed, KQ.sget_room, KQ.sget_long, KQ.sput_at, KQ.sput_rest, KQ.sput_seed, KQ.sput_room, KQ.sput_long, KQ.sN_at, KQ.sN_rest, KQ.sN_seed, KQ.sN_room, KQ.sN_long, KQ.sk_len, KQ.s5get_cells, KQ.s5get_at, KQ.s5get_rest, KQ.s5get_seed, KQ.s5get_room, KQ.s5put_at, KQ.s5put_rest, KQ.s5put_seed, KQ.s5N_at, KQ.s5N_rest, KQ.s5N_seed, KQ.s5k_len, KQ.srcT5_eq, KQ.srcT_eq, KQ.vw_vT, KQ.vw_mT, KQ.q_plN, KQ.vw_labT, KQ.vw_nM, KQ.vw_payT, KQ.vw_seenT, KQ.vw_runT, KQ.vw_progT, KQ.vw_outR, KQ.vw_psT, KQ.vw_psO, KQ.q_uNewP, KQ.q_uRepC, KQ.fl_cons, KQ.fl_nil, KQ.iv_cons, KQ.iv_nil, Option.map_some, Bool.or_eq_true, Bool.or_false, Bool.false_or, Bool.true_or, exists_eq_left, exists_eq_left', Bool.or_self, Bool.or_true, *])
local macro_rules | `(tactic| walk_at "mono") => `(tactic| (intro xs S Q Q' X X' hQ hX; (repeat' first | exact fun h => h | exact hQ _ _ | exact hX _ _ _ _ | refine Exists.imp fun _ => ?_ | refine And.imp ?_ ?_ | refine Or.imp ?_ ?_ | refine forall_imp fun _ => ?_)))

section
variable {P : Program} {w : World} {K : PySem.W.Frag} {mg : Str → Option Value} {base : Heap} {A : Adr} [KT : KTabs K w mg]
/-! ### _law_more -/
abbrev N__law_more : List Str := ["_law_source_here", "_law_cells", "_law_at", "_law_cell", "_law_mixed"]
theorem sc__law_more : FnScope N__law_more ["_law_source_here"] (defScope s__law_more) := ⟨rfl, rfl, rfl, by decide +kernel, rfl, by decide +kernel, by decide +kernel⟩
def sp_more : TSp := fun xs S Q X => ∃ (a : Addr) (ns : List Int) (at_ seed room long : Int), xs = [.ref a] ∧ S a = some (srcT ns at_ 0 seed room long) ∧ 0 ≤ at_ ∧
  ∀ at' rest' seed', 0 ≤ at' → 0 ≤ rest' → Q .non (put S a (srcT ns at' rest' seed' room long))
theorem ok__law_more (T : Top K mg A) {k : Nat}   : CalleeT P w K mg base (k + 1) "_law_more" ["_law_source_here"] (sp_more) := by
  have nd := sc__law_more.nd
  refine Def.okT T.d__law_more sc__law_more (fun _ _ _ _ _ _ us hl => match us, hl with | [_], _ => rfl) (fun xs S Q X h => ?_) ?_ (fun f cdv AA outer s H E hr tk po => have hu := hu_of hr; (ss_cons (s_set (i := 1) nd rfl (Or.inl rfl) (e_ix (ix_op hr) o_ix (e_var 0) e_str (fun _ _ => rfl)))
      (ss_cons (s_set (i := 2) nd rfl (Or.inl rfl) (e_ix (ix_op hr) o_ix (e_var 0) e_str (fun _ _ => rfl)))
      (ss_cons (s_set (i := 3) nd rfl (Or.inl rfl) (e_var 2))
      (ss_cut (s_if (t_cmp op_lt o_lt (e_var 2) (e_callB len_op c_len (by rfl) T.b.b_len boot_len (a_cons (e_var 1) a_nil)) (nomark _)) (ss_one (s_set (i := 3) nd rfl (Or.inl rfl) (e_ix (ix_op hr) o_ix (e_var 1) (e_var 2) (fun _ _ => rfl)))) ss_nil)
      (ss_cons (s_set (i := 4) nd rfl (Or.inl rfl) (e_op KB.md_any o_mod (e_callTy KB.int_any c_int (by rfl) T.b.b_int boot_int (a_cons (e_op ad_op o_add (e_op ad_op o_add (e_op ml2_op o_mul2 (e_var 3) e_int) (e_op ml2_op o_mul2 (e_ix (ix_op hr) o_ix (e_var 0) e_str (fun _ _ => rfl)) e_int)) (e_var 2)) a_nil)) e_int))
      (ss_cons (s_dput hu (e_var 0) e_str (e_op ad_op o_add (e_var 2) e_int) rfl)
      (ss_cons (s_dput hu (e_var 0) e_str (e_var 4) rfl)
      (ss_cons (s_dput hu (e_var 0) e_str (e_op ad_op o_add e_int (e_op KB.md_any o_mod (e_callTy KB.int_any c_int (by rfl) T.b.b_int boot_int (a_cons (e_op ad_op o_add (e_op ml2_op o_mul2 (e_var 4) e_int) e_int) a_nil)) e_int)) rfl)
      (ss_one (s_if (t_cmp op_ge o_ge (e_callB call_abs c_abs (by rfl) T.b.b_abs boot_abs (a_cons (e_var 3) a_nil)) (e_op op_pow o_pow e_int e_int) (nomark _)) (ss_one (s_dput hu (e_var 0) e_str (e_callB call_abs c_abs (by rfl) T.b.b_abs boot_abs (a_cons (e_var 3) a_nil)) rfl)) ss_nil))))))))))) ?_
  · obtain ⟨a, ns, at_, seed, room, long, rfl, hS, h0, hq⟩ := h
    rfl
  · walk_at "mono"
  · intro xs S Q X cQ cX h
    obtain ⟨a, ns, at_, seed, room, long, rfl, hS, h0, hq⟩ := h
    have hT := T.facts
    simp only [KQ.startT, List.map_cons, List.map_nil, List.length_cons, List.length_nil, Nat.reduceAdd, Nat.reduceSub, List.replicate_succ, List.replicate_zero, List.cons_append, List.nil_append]
    walk_at "vc"
    intro p hp
    have key : ∀ c : Int, p [some (.ref a), some (.lst (ns.map Tr.int)), some (.int at_), some (.int c), none] S := fun c => by
      refine hp.go _ _ ?_
      have e1 := Int.emod_nonneg (c * 48271 + seed * 69621 + at_) (by decide : (2147483647 : Int) ≠ 0)
      have e2 := Int.emod_lt_of_pos (c * 48271 + seed * 69621 + at_) (by decide : (0 : Int) < 2147483647)
      have e3 := Int.emod_nonneg ((c * 48271 + seed * 69621 + at_) % 2147483647 * 16807 + 40692) (by decide : (2147483399 : Int) ≠ 0)
      walk_at "vc"
      split
      · exact hq _ _ _ (by omega) (by omega)
      · exact hq _ _ _ (by omega) (by omega)
    split
    · rename_i hl
      obtain ⟨n, en⟩ := int_at (ns := ns) h0 (by simpa using hl)
      exact ⟨_, en, key n⟩
    · exact key at_

/-! ### _law_draw -/
abbrev N__law_draw : List Str := ["_law_source_here", "_law_many", "_law_found"]
theorem sc__law_draw : FnScope N__law_draw ["_law_source_here", "_law_many"] (defScope s__law_draw) := ⟨rfl, rfl, rfl, by decide +kernel, rfl, by decide +kernel, by decide +kernel⟩
theorem ok__law_draw (T : Top K mg A) {k : Nat} (C__law_more : CalleeT P w K mg base k "_law_more" ["_law_source_here"] (sp_more))  : CalleeT P w K mg base (k + 1) "_law_draw" ["_law_source_here", "_law_many"] (sp_draw) := by
  have nd := sc__law_draw.nd
  refine Def.okT T.d__law_draw sc__law_draw (fun _ _ _ _ _ _ us hl => match us, hl with | [_, _], _ => rfl) (fun xs S Q X h => ?_) ?_ (fun f cdv AA outer s H E hr tk po => have hu := hu_of hr; (ss_cut (s_if (t_cmp (eq_op hr) o_eq (e_ix (ix_op hr) o_ix (e_var 0) e_str (fun _ _ => rfl)) e_int (nomark _)) (ss_one (s_expr (e_call C__law_more (hr.mono (by omega)) (by rfl) tk (a_cons (e_var 0) a_nil)))) ss_nil)
      (ss_cons (s_set (i := 2) nd rfl (Or.inl rfl) (e_op KB.md_any o_mod (e_callTy KB.int_any c_int (by rfl) T.b.b_int boot_int (a_cons (e_ix (ix_op hr) o_ix (e_var 0) e_str (fun _ _ => rfl)) a_nil)) (e_var 1)))
      (ss_cons (s_dput hu (e_var 0) e_str (e_op KB.fd_any o_fd (e_ix (ix_op hr) o_ix (e_var 0) e_str (fun _ _ => rfl)) (e_var 1)) rfl)
      (ss_one (s_ret (e_var 2))))))) ?_
  · obtain ⟨a, m, c, rfl, hS, ⟨ns, at_, rest, seed, room, long, rfl, h0, h1⟩, m0, m1, hq⟩ := h
    rfl
  · walk_at "mono"
  · intro xs S Q X cQ cX h
    obtain ⟨a, m, c, rfl, hS, ⟨ns, at_, rest, seed, room, long, rfl, h0, h1⟩, m0, m1, hq⟩ := h
    have hT := T.facts
    simp only [KQ.startT, List.map_cons, List.map_nil, List.length_cons, List.length_nil, Nat.reduceAdd, Nat.reduceSub, List.replicate_succ, List.replicate_zero, List.cons_append, List.nil_append]
    walk_at "vc"
    intro p hp
    have key : ∀ (S' : Sto) (at_ rest seed : Int), 0 ≤ at_ → 0 ≤ rest → S' a = some (srcT ns at_ rest seed room long) → (∀ c, put S' a c = put S a c) → p [some (.ref a), some (.int m), none] S' := fun S' at_ rest seed h0 h1 hS' hp' => by
      refine hp.go _ _ ?_
      have e1 := Int.emod_nonneg rest (by omega : m ≠ 0)
      have e2 := Int.emod_lt_of_pos rest m0
      have e3 := Int.ediv_nonneg h1 (Int.le_of_lt m0)
      have e4 := cdiv_ok (i := rest) m0 m1
      walk_at "vc"
      exact hq _ _ e1 e2 ⟨⟨ns, at_, rest / m, seed, room, long, rfl, h0, e3⟩, rfl⟩
    split
    · rename_i e
      subst e
      exact ⟨a, ns, at_, seed, room, long, rfl, hS, h0, fun at' rest' seed' g0 g1 => key _ at' rest' seed' g0 g1 put_same fun c => put_put⟩
    · exact key S at_ rest seed h0 h1 hS fun _ => rfl

/-! ### _law_loose_sign -/
abbrev N__law_loose_sign : List Str := ["_law_source_here", "_law_signs"]
theorem sc__law_loose_sign : FnScope N__law_loose_sign ["_law_source_here"] (defScope s__law_loose_sign) := ⟨rfl, rfl, rfl, by decide +kernel, rfl, by decide +kernel, by decide +kernel⟩
def signs15 : String := "[]{},:\"\\ -0123456789nulltruefalse[]{},:\" a1"
theorem signs_ex {r : Int} (r0 : 0 ≤ r) (r1 : r < 43) : ∃ c, atI (Str.ofString signs15).cps.toList r = some c ∧ 32 ≤ c ∧ c < 127 := by
  obtain ⟨j, rfl⟩ := Int.eq_ofNat_of_zero_le r0
  have hl : (Str.ofString signs15).cps.toList.length = 43 := by decide +kernel
  have hj : j < (Str.ofString signs15).cps.toList.length := by rw [hl]; omega
  refine ⟨_, atI_nat (List.getElem?_eq_getElem hj), ?_⟩
  have : ∀ c ∈ (Str.ofString signs15).cps.toList, 32 ≤ c ∧ c < 127 := by decide +kernel
  exact this _ (List.getElem_mem hj)
def sp_loose : TSp := fun xs S Q X => ∃ (a : Addr) (c : Tr), xs = [.ref a] ∧ S a = some c ∧ SrcOk c ∧ ∀ (k : Nat) (c' : Tr), 32 ≤ k → k < 127 → SrcOk c' → Q (sgnT k) (put S a c')
theorem ok__law_loose_sign (T : Top K mg A) {k : Nat} (C__law_draw : CalleeT P w K mg base k "_law_draw" ["_law_source_here", "_law_many"] (sp_draw))  : CalleeT P w K mg base (k + 1) "_law_loose_sign" ["_law_source_here"] (sp_loose) := by
  have nd := sc__law_loose_sign.nd
  refine Def.okT T.d__law_loose_sign sc__law_loose_sign (fun _ _ _ _ _ _ us hl => match us, hl with | [_], _ => rfl) (fun xs S Q X h => ?_) ?_ (fun f cdv AA outer s H E hr tk po => have hu := hu_of hr; (ss_cons (s_set (i := 1) nd rfl (Or.inl rfl) e_str)
      (ss_one (s_ret (e_ix (ix_op hr) o_ix (e_var 1) (e_call C__law_draw (hr.mono (by omega)) (by rfl) tk (a_cons (e_var 0) (a_cons e_int a_nil))) (fun _ _ => rfl)))))) ?_
  · obtain ⟨a, c, rfl, hS, hc, hq⟩ := h
    rfl
  · walk_at "mono"
  · intro xs S Q X cQ cX h
    obtain ⟨a, c, rfl, hS, hc, hq⟩ := h
    have hT := T.facts
    simp only [KQ.startT, List.map_cons, List.map_nil, List.length_cons, List.length_nil, Nat.reduceAdd, Nat.reduceSub, List.replicate_succ, List.replicate_zero, List.cons_append, List.nil_append]
    replace hq := Hide.mk hq
    walk_at "vn"
    refine draw_ok hS hc (by decide) (by decide) fun r c1 r0 r1 d1 => ?_
    walk_at "vn"
    obtain ⟨k, ek, h1, h2⟩ := signs_ex r0 r1
    refine ⟨by decide +kernel, k, ek, hq.go k c1 h1 h2 d1.ok⟩

/-! ### _law_changed -/
abbrev N__law_changed : List Str := ["_law_source_here", "_law_text_here", "_law_place", "_law_shape"]
theorem sc__law_changed : FnScope N__law_changed ["_law_source_here", "_law_text_here"] (defScope s__law_changed) := ⟨rfl, rfl, rfl, by decide +kernel, rfl, by decide +kernel, by decide +kernel⟩
theorem pr_cut16 {z : Str} {lo hi : Option Int} (h : Pr z) : Pr (cutS z lo hi) := fun c hc => h c (by
  have hc : c ∈ TL.tl (cutS z lo hi) := hc
  rw [KB.tl_cutS] at hc
  exact List.mem_of_mem_drop (List.mem_of_mem_take hc))
theorem pr_app16 {x y : Str} (h : Pr x) (g : Pr y) : Pr (x ++ y) := fun c hc => by
  have hc : c ∈ TL.tl (x ++ y) := hc
  rw [TL.tl_append] at hc
  exact (List.mem_append.mp hc).elim (h c) (g c)
theorem pr_sg16 {k : Nat} (h0 : 32 ≤ k) (h1 : k < 127) : Pr ⟨#[k]⟩ := fun c hc => by
  have hc : c ∈ [k] := hc
  rw [List.mem_singleton.mp hc]; exact ⟨h0, h1⟩
theorem len_pre16 {z : Str} {m : Nat} : (cutS z none (some (m : Int))).length = min m z.length := by
  rw [TL.len_tl, KB.tl_cutS, HT.sIx_none, HT.sIx_nat, List.drop_zero, List.length_take, ← TL.len_tl]
  omega
theorem len_post16 {z : Str} {m : Nat} : (cutS z (some (m : Int)) none).length = z.length - m := by
  rw [TL.len_tl, KB.tl_cutS, HT.sIx_none, HT.sIx_nat, List.length_take, List.length_drop, ← TL.len_tl]
  omega
theorem len_app16 {x y : Str} : (x ++ y).length = x.length + y.length := by
  rw [TL.len_tl, TL.tl_append, List.length_append, ← TL.len_tl, ← TL.len_tl]
def sp_chg16 : TSp := fun xs S Q X => ∃ (a : Addr) (c : Tr) (z : Str), xs = [.ref a, .str z] ∧ S a = some c ∧ SrcOk c ∧ Pr z ∧ z.length ≤ 3000000 ∧ ∀ (y : Str) (c' : Tr), Pr y → y.length ≤ z.length + 1 → SrcOk c' → Q (.str y) (put S a c')
theorem ok__law_changed (T : Top K mg A) {k : Nat} (C__law_draw : CalleeT P w K mg base k "_law_draw" ["_law_source_here", "_law_many"] (sp_draw)) (C__law_loose_sign : CalleeT P w K mg base k "_law_loose_sign" ["_law_source_here"] (sp_loose))  : CalleeT P w K mg base (k + 1) "_law_changed" ["_law_source_here", "_law_text_here"] (sp_chg16) := by
  have nd := sc__law_changed.nd
  refine Def.okT T.d__law_changed sc__law_changed (fun _ _ _ _ _ _ us hl => match us, hl with | [_, _], _ => rfl) (fun xs S Q X h => ?_) ?_ (fun f cdv AA outer s H E hr tk po => have hu := hu_of hr; (ss_cons (s_set (i := 2) nd rfl (Or.inl rfl) (e_call C__law_draw (hr.mono (by omega)) (by rfl) tk (a_cons (e_var 0) (a_cons (e_op ad_op o_add (e_callB len_op c_len (by rfl) T.b.b_len boot_len (a_cons (e_var 1) a_nil)) e_int) a_nil))))
      (ss_cons (s_set (i := 3) nd rfl (Or.inl rfl) (e_call C__law_draw (hr.mono (by omega)) (by rfl) tk (a_cons (e_var 0) (a_cons e_int a_nil))))
      (ss_cons (s_if (t_cmp (eq_op hr) o_eq (e_var 3) e_int (nomark _)) (ss_one (s_ret (e_op ad_op o_add (e_slice (e_var 1) o_none (o_some (e_var 2))) (e_slice (e_var 1) (o_some (e_op ad_op o_add (e_var 2) e_int)) o_none)))) ss_nil)
      (ss_cons (s_if (t_cmp (eq_op hr) o_eq (e_var 3) e_int (nomark _)) (ss_one (s_ret (e_op ad_op o_add (e_op ad_op o_add (e_slice (e_var 1) o_none (o_some (e_var 2))) (e_call C__law_loose_sign (hr.mono (by omega)) (by rfl) tk (a_cons (e_var 0) a_nil))) (e_slice (e_var 1) (o_some (e_var 2)) o_none)))) ss_nil)
      (ss_one (s_ret (e_op ad_op o_add (e_op ad_op o_add (e_slice (e_var 1) o_none (o_some (e_var 2))) (e_call C__law_loose_sign (hr.mono (by omega)) (by rfl) tk (a_cons (e_var 0) a_nil))) (e_slice (e_var 1) (o_some (e_op ad_op o_add (e_var 2) e_int)) o_none))))))))) ?_
  · obtain ⟨a, c, z, rfl, hS, hc, pz, lz, hq⟩ := h
    rfl
  · walk_at "mono"
  · intro xs S Q X cQ cX h
    obtain ⟨a, c, z, rfl, hS, hc, pz, lz, hq⟩ := h
    have hT := T.facts
    simp only [KQ.startT, List.map_cons, List.map_nil, List.length_cons, List.length_nil, Nat.reduceAdd, Nat.reduceSub, List.replicate_succ, List.replicate_zero, List.cons_append, List.nil_append]
    replace hq := Hide.mk hq
    have lz2 : z.length ≤ sizeLine := szM (by omega)
    replace pz := Hide.mk pz
    walk_at "vn"
    refine draw_ok hS hc (by omega) (by omega) fun m c1 m0 m1 d1 => ?_
    obtain ⟨m, rfl⟩ : ∃ k : Nat, m = k := ⟨m.toNat, by omega⟩
    refine draw_ok put_same d1.ok (by decide) (by decide) fun r c2 r0 r1 d2 => ?_
    rw [put_put]
    walk_at "vn"
    rw [show ((m : Int) + 1) = ((m + 1 : Nat) : Int) by omega]
    have l1 := len_pre16 (z := z) (m := m)
    have l2 := len_post16 (z := z) (m := m)
    have l3 := len_post16 (z := z) (m := m + 1)
    by_cases h0 : r = 0
    · rw [if_pos h0]
      exact ⟨szM (by omega), hq.go _ c2 (pr_app16 (pr_cut16 pz.go) (pr_cut16 pz.go)) (by rw [len_app16]; omega) d2.ok⟩
    rw [if_neg h0]
    by_cases h1 : r = 1
    · rw [if_pos h1]
      refine ⟨a, c2, rfl, put_same, d2.ok, fun k c3 k0 k1 d3 => ?_⟩
      rw [put_put]
      have lk : (⟨#[k]⟩ : Str).length = 1 := rfl
      clear l1 l2 l3 lz2
      unfold sgnT
      walk_at "vn"
      have l1 := len_pre16 (z := z) (m := m)
      have l2 := len_post16 (z := z) (m := m)
      exact ⟨szM (by omega), szM (by rw [len_app16, lk]; omega), hq.go _ c3 (pr_app16 (pr_app16 (pr_cut16 pz.go) (pr_sg16 k0 k1)) (pr_cut16 pz.go)) (by rw [len_app16, len_app16, lk]; omega) d3⟩
    · rw [if_neg h1]
      refine ⟨a, c2, rfl, put_same, d2.ok, fun k c3 k0 k1 d3 => ?_⟩
      rw [put_put]
      have lk : (⟨#[k]⟩ : Str).length = 1 := rfl
      clear l1 l2 l3 lz2
      unfold sgnT
      walk_at "vn"
      have l1 := len_pre16 (z := z) (m := m)
      have l3 := len_post16 (z := z) (m := m + 1)
      exact ⟨szM (by omega), szM (by rw [len_app16, lk]; omega), hq.go _ c3 (pr_app16 (pr_app16 (pr_cut16 pz.go) (pr_sg16 k0 k1)) (pr_cut16 pz.go)) (by rw [len_app16, len_app16, lk]; omega) d3⟩

/-! ### _law_number -/
abbrev N__law_number : List Str := ["_law_source_here", "_law_figures", "_law_number_here", "_law_k"]
theorem sc__law_number : FnScope N__law_number ["_law_source_here"] (defScope s__law_number) := ⟨rfl, rfl, rfl, by decide +kernel, rfl, by decide +kernel, by decide +kernel⟩
theorem ok__law_number (T : Top K mg A) {k : Nat} (C__law_draw : CalleeT P w K mg base k "_law_draw" ["_law_source_here", "_law_many"] (sp_draw))  : CalleeT P w K mg base (k + 1) "_law_number" ["_law_source_here"] (sp_some IsNum) := by
  have nd := sc__law_number.nd
  refine Def.okT T.d__law_number sc__law_number (fun _ _ _ _ _ _ us hl => match us, hl with | [_], _ => rfl) (fun xs S Q X h => ?_) ?_ (fun f cdv AA outer s H E hr tk po => have hu := hu_of hr; (ss_cons (s_set (i := 1) nd rfl (Or.inl rfl) (e_op ad_op o_add e_int (e_call C__law_draw (hr.mono (by omega)) (by rfl) tk (a_cons (e_var 0) (a_cons e_int a_nil)))))
      (ss_cut (s_if (t_cmp (eq_op hr) o_eq (e_call C__law_draw (hr.mono (by omega)) (by rfl) tk (a_cons (e_var 0) (a_cons e_int a_nil))) e_int (nomark _)) (ss_one (s_set (i := 1) nd rfl (Or.inl rfl) (e_op ad_op o_add e_int (e_call C__law_draw (hr.mono (by omega)) (by rfl) tk (a_cons (e_var 0) (a_cons e_int a_nil)))))) ss_nil)
      (ss_cons (s_set (i := 2) nd rfl (Or.inl rfl) e_int)
      (ss_cons (s_for (.nm 3) po rfl (i_rng1 (by rfl) T.b.b_range (a_cons (e_var 1) a_nil)) (pg_name (i := 3) nd rfl (Or.inl rfl)) (ss_one (s_set (i := 2) nd rfl (Or.inl rfl) (e_op ad_op o_add (e_op ml2_op o_mul2 (e_var 2) e_int) (e_call C__law_draw (hr.mono (by omega)) (by rfl) tk (a_cons (e_var 0) (a_cons e_int a_nil)))))))
      (ss_cons (s_if (t_cmp (eq_op hr) o_eq (e_call C__law_draw (hr.mono (by omega)) (by rfl) tk (a_cons (e_var 0) (a_cons e_int a_nil))) e_int (nomark _)) (ss_one (s_ret (e_un un_neg u_neg (e_var 2)))) ss_nil)
      (ss_one (s_ret (e_var 2))))))))) ?_
  · obtain ⟨a, c, rfl, hS, hc, hq⟩ := h
    rfl
  · walk_at "mono"
  · intro xs S Q X cQ cX h
    obtain ⟨a, c, rfl, hS, hc, hq⟩ := h
    have hT := T.facts
    simp only [KQ.startT, List.map_cons, List.map_nil, List.length_cons, List.length_nil, Nat.reduceAdd, Nat.reduceSub, List.replicate_succ, List.replicate_zero, List.cons_append, List.nil_append]
    walk_at "vc"
    refine draw_ok hS hc (by decide) (by decide) fun r c1 r0 r1 d1 => ?_
    walk_at "vc"
    intro p hp
    have key : ∀ (f : Int) (c1 : Tr), 0 ≤ f → f ≤ 30 → Drw c c1 → p [some (.ref a), some (.int f), none, none] (put S a c1) := fun f c1 f0 f1 d1 => hp.go _ _ (by
      clear hp
      walk_at "vc"
      refine ⟨by omega, by omega, loop_inv _ (fun i ρ S' => ∃ (n : Int) (v : Option Tr) (c2 : Tr), ρ = [some (.ref a), some (.int f), some (.int n), v] ∧ S' = put S a c2 ∧ 0 ≤ n ∧ n < 10 ^ i ∧ Drw c c2) ?_ ?_ ⟨0, none, c1, rfl, rfl, by omega, by decide, d1⟩⟩
      · rintro i x ρ S' N hx ⟨n, v, c2, rfl, rfl, n0, n1, d2⟩ hN
        walk_at "vc"
        refine draw_ok put_same d2.ok (by decide) (by decide) fun r c3 r0 r1 d3 => ?_
        walk_at "vc"
        refine hN _ _ ⟨_, _, c3, rfl, rfl, by omega, ?_, d2.trans d3⟩
        rw [Int.pow_succ]
        omega
      · rintro ρ S' ⟨n, v, c2, rfl, rfl, n0, n1, d2⟩
        rw [rngT_len] at n1
        have hp : (10 : Int) ^ f.toNat ≤ 10 ^ 30 := pow10 (by omega)
        walk_at "vc"
        refine draw_ok put_same d2.ok (by decide) (by decide) fun r c3 r0 r1 d3 => ?_
        walk_at "vc"
        split
        · exact hq _ _ ⟨_, rfl, by omega⟩ (d2.trans d3)
        · exact hq _ _ ⟨_, rfl, by omega⟩ (d2.trans d3))
    refine draw_ok put_same d1.ok (by decide) (by decide) fun r2 c2 r20 r21 d2 => ?_
    walk_at "vc"
    split
    · refine draw_ok put_same d2.ok (by decide) (by decide) fun r3 c3 r30 r31 d3 => ?_
      walk_at "vc"
      exact key _ _ (by omega) (by omega) ((d1.trans d2).trans d3)
    · exact key _ _ (by omega) (by omega) (d1.trans d2)

/-! ### _law_sign -/
abbrev N__law_sign : List Str := ["_law_source_here", "_law_signs"]
theorem sc__law_sign : FnScope N__law_sign ["_law_source_here"] (defScope s__law_sign) := ⟨rfl, rfl, rfl, by decide +kernel, rfl, by decide +kernel, by decide +kernel⟩
theorem ok__law_sign (T : Top K mg A) {k : Nat} (C__law_draw : CalleeT P w K mg base k "_law_draw" ["_law_source_here", "_law_many"] (sp_draw))  : CalleeT P w K mg base (k + 1) "_law_sign" ["_law_source_here"] (sp_some IsSign) := by
  have nd := sc__law_sign.nd
  refine Def.okT T.d__law_sign sc__law_sign (fun _ _ _ _ _ _ us hl => match us, hl with | [_], _ => rfl) (fun xs S Q X h => ?_) ?_ (fun f cdv AA outer s H E hr tk po => have hu := hu_of hr; (ss_cons (s_set (i := 1) nd rfl (Or.inl rfl) e_str)
      (ss_cons (s_set (i := 1) nd rfl (Or.inl rfl) (e_op ad_op o_add (e_var 1) e_str))
      (ss_one (s_ret (e_ix (ix_op hr) o_ix (e_var 1) (e_call C__law_draw (hr.mono (by omega)) (by rfl) tk (a_cons (e_var 0) (a_cons e_int a_nil))) (fun _ _ => rfl))))))) ?_
  · obtain ⟨a, c, rfl, hS, hc, hq⟩ := h
    rfl
  · walk_at "mono"
  · intro xs S Q X cQ cX h
    obtain ⟨a, c, rfl, hS, hc, hq⟩ := h
    have hT := T.facts
    simp only [KQ.startT, List.map_cons, List.map_nil, List.length_cons, List.length_nil, Nat.reduceAdd, Nat.reduceSub, List.replicate_succ, List.replicate_zero, List.cons_append, List.nil_append]
    walk_at "vc"
    refine ⟨by decide +kernel, draw_ok hS hc (by decide) (by decide) fun r c1 r0 r1 d1 => ?_⟩
    walk_at "vc"
    refine ⟨by decide +kernel, ?_⟩
    exact lit_ex (n := 94) (by decide +kernel) (by decide +kernel) r0 r1 fun c h1 h2 => hq _ _ ⟨c, rfl, h1, h2⟩ d1

/-! ### _law_text -/
abbrev N__law_text : List Str := ["_law_source_here", "_law_size", "_law_k"]
theorem sc__law_text : FnScope N__law_text ["_law_source_here"] (defScope s__law_text) := ⟨rfl, rfl, rfl, by decide +kernel, rfl, by decide +kernel, by decide +kernel⟩
theorem ok__law_text (T : Top K mg A) {k : Nat} (C__law_draw : CalleeT P w K mg base k "_law_draw" ["_law_source_here", "_law_many"] (sp_draw)) (C__law_sign : CalleeT P w K mg base k "_law_sign" ["_law_source_here"] (sp_some IsSign))  : CalleeT P w K mg base (k + 1) "_law_text" ["_law_source_here"] (sp_some (IsTxt 300)) := by
  have nd := sc__law_text.nd
  refine Def.okT T.d__law_text sc__law_text (fun _ _ _ _ _ _ us hl => match us, hl with | [_], _ => rfl) (fun xs S Q X h => ?_) ?_ (fun f cdv AA outer s H E hr tk po => have hu := hu_of hr; (ss_cons (s_set (i := 1) nd rfl (Or.inl rfl) (e_call C__law_draw (hr.mono (by omega)) (by rfl) tk (a_cons (e_var 0) (a_cons e_int a_nil))))
      (ss_cut (s_if (TPW.pt (w_and (t_cmp op_gt o_gt (e_ix (ix_op hr) o_ix (e_var 0) e_str (fun _ _ => rfl)) e_int (nomark _)) (w_and1 (t_cmp (eq_op hr) o_eq (e_call C__law_draw (hr.mono (by omega)) (by rfl) tk (a_cons (e_var 0) (a_cons e_int a_nil))) e_int (nomark _))))) (ss_cons (s_dput hu (e_var 0) e_str (e_op op_sub o_sub (e_ix (ix_op hr) o_ix (e_var 0) e_str (fun _ _ => rfl)) e_int) rfl)
      (ss_one (s_set (i := 1) nd rfl (Or.inl rfl) (e_call C__law_draw (hr.mono (by omega)) (by rfl) tk (a_cons (e_var 0) (a_cons e_int a_nil)))))) ss_nil)
      (ss_one (s_ret (e_mt PySem.F.plainAttrs_str PySem.F.slot_str_join PySem.F.type_str_join mt_join m_join e_str (a_cons (e_lc (own := [("_law_k", 2)]) (.nm 2) rfl nd (i_rng1 (by rfl) T.b.b_range (a_cons (e_var 1) a_nil)) (blkOk_by (own := [("_law_k", 2)]) (N := N__law_text) (sc := defScope s__law_text) (by decide +kernel)) (by decide) (fun _ _ _ _ _ => (pg_name (i := 2) nd rfl (Or.inl rfl) (hf := Or.inr rfl))) (fun _ _ _ _ _ => ts_nil) (fun _ _ _ _ _ => (e_call C__law_sign (hr.mono (by omega)) (by rfl) takes0N (a_cons (e_var 0) a_nil)))) a_nil) (fun ho ha => pe_bm PySem.F.plainAttrs_str PySem.F.slot_str_join PySem.F.type_str_join mt_join ho ha))))))) ?_
  · obtain ⟨a, c, rfl, hS, hc, hq⟩ := h
    rfl
  · walk_at "mono"
  · intro xs S Q X cQ cX h
    obtain ⟨a, c, rfl, hS, hc, hq⟩ := h
    have hT := T.facts
    simp only [KQ.startT, List.map_cons, List.map_nil, List.length_cons, List.length_nil, Nat.reduceAdd, Nat.reduceSub, List.replicate_succ, List.replicate_zero, List.cons_append, List.nil_append]
    walk_at "vc"
    refine draw_ok hS hc (by decide) (by decide) fun r c1 r0 r1 d1 => ?_
    walk_at "vc"
    intro p hp
    have key : ∀ (r : Int) (c1 : Tr), 0 ≤ r → r ≤ 300 → Drw c c1 → p [some (.ref a), some (.int r), none] (put S a c1) := fun r c1 r0 r1 d1 => hp.go _ _ (by
      clear hp
      walk_at "vc"
      refine ⟨by omega, by omega, lc_inv _ (fun i acc S' => ∃ (zs : List Str) (c2 : Tr), acc = zs.map Tr.str ∧ zs.length = i ∧ (∀ z ∈ zs, Pr z ∧ z.length = 1) ∧ S' = put S a c2 ∧ Drw c c2) ?_ ?_ ⟨[], c1, rfl, rfl, fun _ h => (nomatch h), rfl, d1⟩⟩
      · rintro i x acc S' N hx ⟨zs, c2, rfl, lz, hz, rfl, d2⟩ hN
        have hi := (rng_at hx).2
        walk_at "vc"
        refine some_ok put_same d2.ok fun y c3 ⟨e, ey, c0, c1⟩ d3 => ?_
        subst ey
        walk_at "vc"
        refine ⟨szn (by omega), hN _ _ ⟨zs ++ [⟨#[e]⟩], c3, by rw [List.map_append]; rfl, by rw [List.length_append, lz]; rfl, fun z h => ?_, rfl, d2.trans d3⟩⟩
        rcases List.mem_append.mp h with h | h
        · exact hz z h
        · rw [List.mem_singleton.mp h]
          exact ⟨pr_one ⟨c0, c1⟩, rfl⟩
      · rintro acc S' ⟨zs, c2, rfl, lz, hz, rfl, d2⟩
        rw [rngT_len] at lz
        walk_at "vc"
        have lo := len_ones fun z h => (hz z h).2
        refine ⟨zs, rfl, ?_, hq _ _ ⟨_, rfl, join_pr fun z h => (hz z h).1, ?_⟩ d2⟩
        · rw [lo, lz]
          show r.toNat + r.toNat * 0 ≤ 16777216
          omega
        · rw [join_len, lo]
          omega)
    obtain ⟨ns, at_, rest, seed, room, long, rfl, h0, h1⟩ := id d1.ok
    walk_at "vc"
    split
    · refine draw_ok put_same d1.ok (by decide) (by decide) fun r2 c2 r20 r21 d2 => ?_
      obtain ⟨ns, at_, rest, seed, room, long, rfl, h0, h1⟩ := id d2.ok
      walk_at "vc"
      split
      · refine draw_ok put_same (src_ok h0 h1) (by decide) (by decide) fun r4 c4 r40 r41 d4 => ?_
        walk_at "vc"
        exact key _ _ r40 (by omega) (d1.trans (d2.trans ⟨d4.ok, d4.rm⟩))
      · exact key _ _ r0 (by omega) (d1.trans d2)
    · exact key _ _ r0 (by omega) d1

/-! ### _law_key -/
abbrev N__law_key : List Str := ["_law_source_here", "_law_shape", "_law_near"]
theorem sc__law_key : FnScope N__law_key ["_law_source_here"] (defScope s__law_key) := ⟨rfl, rfl, rfl, by decide +kernel, rfl, by decide +kernel, by decide +kernel⟩
theorem ok__law_key (T : Top K mg A) {k : Nat} (C__law_draw : CalleeT P w K mg base k "_law_draw" ["_law_source_here", "_law_many"] (sp_draw)) (C__law_number : CalleeT P w K mg base k "_law_number" ["_law_source_here"] (sp_some IsNum)) (C__law_text : CalleeT P w K mg base k "_law_text" ["_law_source_here"] (sp_some (IsTxt 300)))  : CalleeT P w K mg base (k + 1) "_law_key" ["_law_source_here"] (sp_some IsKey) := by
  have nd := sc__law_key.nd
  refine Def.okT T.d__law_key sc__law_key (fun _ _ _ _ _ _ us hl => match us, hl with | [_], _ => rfl) (fun xs S Q X h => ?_) ?_ (fun f cdv AA outer s H E hr tk po => have hu := hu_of hr; (ss_cons (s_set (i := 1) nd rfl (Or.inl rfl) (e_call C__law_draw (hr.mono (by omega)) (by rfl) tk (a_cons (e_var 0) (a_cons e_int a_nil))))
      (ss_cons (s_if (t_cmp op_lt o_lt (e_var 1) e_int (nomark _)) (ss_one (s_ret (e_call C__law_number (hr.mono (by omega)) (by rfl) tk (a_cons (e_var 0) a_nil)))) ss_nil)
      (ss_cons (s_if (t_cmp op_lt o_lt (e_var 1) e_int (nomark _)) (ss_one (s_ret (e_callTy str4 c_str4 (by rfl) T.b.b_str boot_str (a_cons (e_call C__law_number (hr.mono (by omega)) (by rfl) tk (a_cons (e_var 0) a_nil)) a_nil)))) ss_nil)
      (ss_cons (s_if (t_cmp (eq_op hr) o_eq (e_var 1) e_int (nomark _)) (ss_cons (s_set (i := 2) nd rfl (Or.inl rfl) (e_ix (ix_op hr) o_ix (e_lst (a_cons e_str (a_cons e_str (a_cons e_str (a_cons e_str (a_cons e_str (a_cons e_str (a_cons e_str (a_cons e_str a_nil))))))))) (e_call C__law_draw (hr.mono (by omega)) (by rfl) tk (a_cons (e_var 0) (a_cons e_int a_nil))) (fun _ _ => rfl)))
      (ss_one (s_ret (e_op ad_op o_add (e_var 2) (e_callTy str4 c_str4 (by rfl) T.b.b_str boot_str (a_cons (e_call C__law_number (hr.mono (by omega)) (by rfl) tk (a_cons (e_var 0) a_nil)) a_nil)))))) ss_nil)
      (ss_cons (s_if (t_cmp (eq_op hr) o_eq (e_var 1) e_int (nomark _)) (ss_one (s_ret (e_ix (ix_op hr) o_ix (e_lst (a_cons e_str (a_cons e_str (a_cons e_str (a_cons e_str (a_cons e_str (a_cons e_str (a_cons e_str (a_cons e_str a_nil))))))))) (e_call C__law_draw (hr.mono (by omega)) (by rfl) tk (a_cons (e_var 0) (a_cons e_int a_nil))) (fun _ _ => rfl)))) ss_nil)
      (ss_one (s_ret (e_call C__law_text (hr.mono (by omega)) (by rfl) tk (a_cons (e_var 0) a_nil)))))))))) ?_
  · obtain ⟨a, c, rfl, hS, hc, hq⟩ := h
    rfl
  · walk_at "mono"
  · intro xs S Q X cQ cX h
    obtain ⟨a, c, rfl, hS, hc, hq⟩ := h
    have hT := T.facts
    simp only [KQ.startT, List.map_cons, List.map_nil, List.length_cons, List.length_nil, Nat.reduceAdd, Nat.reduceSub, List.replicate_succ, List.replicate_zero, List.cons_append, List.nil_append]
    walk_at "vc"
    refine draw_ok hS hc (by decide) (by decide) fun r c1 r0 r1 d1 => ?_
    walk_at "vc"
    split
    · exact some_ok put_same d1.ok fun y c2 h2 d2 => by walk_at "vc"; exact hq _ _ h2.key (d1.trans d2)
    split
    · refine some_ok put_same d1.ok fun y c2 ⟨n, e, hn⟩ d2 => ?_
      subst e
      walk_at "vc"
      exact ⟨log_int hn, hq _ _ ⟨.inr _, rfl, pr_int n, by have := len_int (k := 30) (by decide) hn; omega⟩ (d1.trans d2)⟩
    split
    · refine draw_ok put_same d1.ok (by decide) (by decide) fun r2 c2 r20 r21 d2 => ?_
      walk_at "vc"
      refine menu_tx (n := 8) (m := 2) rfl (by decide +kernel) r20 r21 fun z hz zl => ?_
      walk_at "vc"
      refine some_ok put_same d2.ok fun y c3 ⟨n, e, hn⟩ d3 => ?_
      subst e
      walk_at "vc"
      have hl := len_int (k := 30) (by decide) hn
      exact ⟨log_int hn, szl (by omega), hq _ _ ⟨.inr _, rfl, hz.app (pr_int n), by rw [len_app]; omega⟩ ((d1.trans d2).trans d3)⟩
    split
    · refine draw_ok put_same d1.ok (by decide) (by decide) fun r2 c2 r20 r21 d2 => ?_
      walk_at "vc"
      refine menu_tx (n := 8) (m := 5) rfl (by decide +kernel) r20 r21 fun z hz zl => ?_
      walk_at "vc"
      exact hq _ _ ⟨.inr z, rfl, hz, by omega⟩ (d1.trans d2)
    · exact some_ok put_same d1.ok fun y c2 h2 d2 => by walk_at "vc"; exact hq _ _ (h2.key (by decide)) (d1.trans d2)

/-! ### _law_leaf -/
abbrev N__law_leaf : List Str := ["_law_source_here", "_law_shape", "_law_edge"]
theorem sc__law_leaf : FnScope N__law_leaf ["_law_source_here"] (defScope s__law_leaf) := ⟨rfl, rfl, rfl, by decide +kernel, rfl, by decide +kernel, by decide +kernel⟩
theorem ok__law_leaf (T : Top K mg A) {k : Nat} (C__law_draw : CalleeT P w K mg base k "_law_draw" ["_law_source_here", "_law_many"] (sp_draw)) (C__law_number : CalleeT P w K mg base k "_law_number" ["_law_source_here"] (sp_some IsNum)) (C__law_text : CalleeT P w K mg base k "_law_text" ["_law_source_here"] (sp_some (IsTxt 300)))  : CalleeT P w K mg base (k + 1) "_law_leaf" ["_law_source_here"] (sp_some IsLeaf) := by
  have nd := sc__law_leaf.nd
  refine Def.okT T.d__law_leaf sc__law_leaf (fun _ _ _ _ _ _ us hl => match us, hl with | [_], _ => rfl) (fun xs S Q X h => ?_) ?_ (fun f cdv AA outer s H E hr tk po => have hu := hu_of hr; (ss_cons (s_set (i := 1) nd rfl (Or.inl rfl) (e_call C__law_draw (hr.mono (by omega)) (by rfl) tk (a_cons (e_var 0) (a_cons e_int a_nil))))
      (ss_cons (s_if (t_cmp op_lt o_lt (e_var 1) e_int (nomark _)) (ss_one (s_ret e_non)) ss_nil)
      (ss_cons (s_if (t_cmp (eq_op hr) o_eq (e_var 1) e_int (nomark _)) (ss_one (s_ret (e_cmp (eq_op hr) o_eq (e_call C__law_draw (hr.mono (by omega)) (by rfl) tk (a_cons (e_var 0) (a_cons e_int a_nil))) e_int (nomark _)))) ss_nil)
      (ss_cons (s_if (t_cmp op_lt o_lt (e_var 1) e_int (nomark _)) (ss_one (s_ret (e_call C__law_number (hr.mono (by omega)) (by rfl) tk (a_cons (e_var 0) a_nil)))) ss_nil)
      (ss_cons (s_if (t_cmp (eq_op hr) o_eq (e_var 1) e_int (nomark _)) (ss_cons (s_set (i := 2) nd rfl (Or.inl rfl) (e_ix (ix_op hr) o_ix (e_lst (a_cons e_int (a_cons e_int (a_cons (e_op op_sub o_sub (e_op op_pow o_pow e_int e_int) e_int) (a_cons (e_op op_pow o_pow e_int e_int) (a_cons (e_op op_pow o_pow e_int e_int) (a_cons (e_op op_sub o_sub (e_op op_pow o_pow e_int e_int) e_int) a_nil))))))) (e_call C__law_draw (hr.mono (by omega)) (by rfl) tk (a_cons (e_var 0) (a_cons e_int a_nil))) (fun _ _ => rfl)))
      (ss_one (s_ret (e_op op_sub o_sub (e_var 2) (e_op ml2_op o_mul2 (e_op ml2_op o_mul2 e_int (e_var 2)) (e_call C__law_draw (hr.mono (by omega)) (by rfl) tk (a_cons (e_var 0) (a_cons e_int a_nil)))))))) ss_nil)
      (ss_one (s_ret (e_call C__law_text (hr.mono (by omega)) (by rfl) tk (a_cons (e_var 0) a_nil)))))))))) ?_
  · obtain ⟨a, c, rfl, hS, hc, hq⟩ := h
    rfl
  · walk_at "mono"
  · intro xs S Q X cQ cX h
    obtain ⟨a, c, rfl, hS, hc, hq⟩ := h
    have hT := T.facts
    simp only [KQ.startT, List.map_cons, List.map_nil, List.length_cons, List.length_nil, Nat.reduceAdd, Nat.reduceSub, List.replicate_succ, List.replicate_zero, List.cons_append, List.nil_append]
    walk_at "vc"
    refine draw_ok hS hc (by decide) (by decide) fun r c1 r0 r1 d1 => ?_
    walk_at "vc"
    split
    · exact hq _ _ ⟨.non, rfl, trivial, trivial⟩ d1
    split
    · refine draw_ok put_same d1.ok (by decide) (by decide) fun r2 c2 r20 r21 d2 => ?_
      walk_at "vc"
      exact hq _ _ ⟨.bl _, rfl, trivial, trivial⟩ (d1.trans d2)
    split
    · exact some_ok put_same d1.ok fun y c2 h2 d2 => by walk_at "vc"; exact hq _ _ h2.leaf (d1.trans d2)
    split
    · refine draw_ok put_same d1.ok (by decide) (by decide) fun r2 c2 r20 r21 d2 => ?_
      walk_at "vc"
      refine menu_ex (n := 6) rfl r20 r21 fun v hv => ?_
      have hn : ∃ n : Int, v = .int n ∧ 0 ≤ n ∧ n < 10 ^ 30 := by
        simp only [List.mem_cons, List.not_mem_nil, or_false] at hv
        rcases hv with rfl | rfl | rfl | rfl | rfl | rfl <;> exact ⟨_, rfl, by decide, by decide⟩
      obtain ⟨n, rfl, n0, n1⟩ := hn
      walk_at "vc"
      refine draw_ok put_same d2.ok (by decide) (by decide) fun r3 c3 r30 r31 d3 => ?_
      walk_at "vc"
      have hr : r3 = 0 ∨ r3 = 1 := by omega
      refine ⟨?_, hq _ _ ⟨.int (n - 2 * n * r3), rfl, trivial, ?_⟩ ((d1.trans d2).trans d3)⟩
      · exact .inl (.inr ⟨by omega, by omega⟩)
      · show (n - 2 * n * r3).natAbs < 10 ^ 30
        rcases hr with rfl | rfl <;> omega
    · exact some_ok put_same d1.ok fun y c2 h2 d2 => by walk_at "vc"; exact hq _ _ h2.leaf (d1.trans d2)

/-! ### _law_raw -/
abbrev N__law_raw : List Str := ["_law_source_here", "_law_depth", "_law_shape", "_law_many", "_law_k", "_law_names", "_law_name"]
theorem sc__law_raw : FnScope N__law_raw ["_law_source_here", "_law_depth"] (defScope s__law_raw) := ⟨rfl, rfl, rfl, by decide +kernel, rfl, by decide +kernel, by decide +kernel⟩
def sp_raw (n : Nat) : TSp := fun xs S Q X => ∃ (a : Addr) (d : Int) (c : Tr), xs = [.ref a, .int d] ∧ S a = some c ∧ SrcOk c ∧ 0 ≤ d ∧ d < n ∧ ∀ (w : RawV) (c' : Tr), ROk w → (rdepth w : Int) ≤ d → (rparts w : Int) = roomOf c - roomOf c' → (1 ≤ roomOf c → -12 * d ≤ roomOf c') → (roomOf c ≤ 0 → roomOf c' = roomOf c - 1) → SrcOk c' → Q (rT w) (put S a c')
theorem step__law_raw (T : Top K mg A) {k n : Nat} (C__law_draw : CalleeT P w K mg base k "_law_draw" ["_law_source_here", "_law_many"] (sp_draw)) (C__law_key : CalleeT P w K mg base k "_law_key" ["_law_source_here"] (sp_some IsKey)) (C__law_leaf : CalleeT P w K mg base k "_law_leaf" ["_law_source_here"] (sp_some IsLeaf)) (C__law_raw : CalleeT P w K mg base k "_law_raw" ["_law_source_here", "_law_depth"] (sp_raw n)) : CalleeT P w K mg base (k + 1) "_law_raw" ["_law_source_here", "_law_depth"] (sp_raw (n + 1)) := by
  have nd := sc__law_raw.nd
  refine Def.okT T.d__law_raw sc__law_raw (fun _ _ _ _ _ _ us hl => match us, hl with | [_, _], _ => rfl) (fun xs S Q X h => ?_) ?_ (fun f cdv AA outer s H E hr tk po => have hu := hu_of hr; (ss_cons (s_dput hu (e_var 0) e_str (e_op op_sub o_sub (e_ix (ix_op hr) o_ix (e_var 0) e_str (fun _ _ => rfl)) e_int) rfl)
      (ss_cons (s_set (i := 2) nd rfl (Or.inl rfl) (e_call C__law_draw (hr.mono (by omega)) (by rfl) tk (a_cons (e_var 0) (a_cons e_int a_nil))))
      (ss_cons (s_if (TPW.pt (w_or (t_cmp (eq_op hr) o_eq (e_var 1) e_int (nomark _)) (w_or (t_cmp op_le o_le (e_ix (ix_op hr) o_ix (e_var 0) e_str (fun _ _ => rfl)) e_int (nomark _)) (w_or1 (t_cmp op_lt o_lt (e_var 2) e_int (nomark _)))))) (ss_one (s_ret (e_call C__law_leaf (hr.mono (by omega)) (by rfl) tk (a_cons (e_var 0) a_nil)))) ss_nil)
      (ss_cons (s_set (i := 3) nd rfl (Or.inl rfl) (e_call C__law_draw (hr.mono (by omega)) (by rfl) tk (a_cons (e_var 0) (a_cons e_int a_nil))))
      (ss_cut (s_if (t_cmp (eq_op hr) o_eq (e_call C__law_draw (hr.mono (by omega)) (by rfl) tk (a_cons (e_var 0) (a_cons e_int a_nil))) e_int (nomark _)) (ss_one (s_set (i := 3) nd rfl (Or.inl rfl) (e_call C__law_draw (hr.mono (by omega)) (by rfl) tk (a_cons (e_var 0) (a_cons e_int a_nil))))) ss_nil)
      (ss_cons (s_if (t_cmp op_lt o_lt (e_var 2) e_int (nomark _)) (ss_one (s_ret (e_tup (a_cons e_str (a_cons (e_lc (own := [("_law_k", 4)]) (.nm 4) rfl nd (i_rng1 (by rfl) T.b.b_range (a_cons (e_var 3) a_nil)) (blkOk_by (own := [("_law_k", 4)]) (N := N__law_raw) (sc := defScope s__law_raw) (by decide +kernel)) (by decide) (fun _ _ _ _ _ => (pg_name (i := 4) nd rfl (Or.inl rfl) (hf := Or.inr rfl))) (fun _ _ _ _ _ => ts_nil) (fun _ _ _ _ _ => (e_call C__law_raw (hr.mono (by omega)) (by rfl) takes0N (a_cons (e_var 0) (a_cons (e_op op_sub o_sub (e_var 1) e_int) a_nil))))) a_nil))))) ss_nil)
      (ss_cons (s_set (i := 5) nd rfl (Or.inl rfl) (e_lstC a_nil))
      (ss_cons (s_for (.nm 4) po rfl (i_rng1 (by rfl) T.b.b_range (a_cons (e_var 3) a_nil)) (pg_name (i := 4) nd rfl (Or.inl rfl)) (ss_cons (s_set (i := 6) nd rfl (Or.inl rfl) (e_callTy str4 c_str4 (by rfl) T.b.b_str boot_str (a_cons (e_call C__law_key (hr.mono (by omega)) (by rfl) tk (a_cons (e_var 0) a_nil)) a_nil)))
      (ss_cut (s_if (TPW.pt (w_and (t_cmp (ne_op hr) o_eq (e_var 5) (e_lst a_nil) (nomark _)) (w_and1 (t_cmp (eq_op hr) o_eq (e_call C__law_draw (hr.mono (by omega)) (by rfl) tk (a_cons (e_var 0) (a_cons e_int a_nil))) e_int (nomark _))))) (ss_one (s_set (i := 6) nd rfl (Or.inl rfl) (e_ix (ix_op hr) o_ix (e_var 5) (e_call C__law_draw (hr.mono (by omega)) (by rfl) tk (a_cons (e_var 0) (a_cons (e_callB len_op c_len (by rfl) T.b.b_len boot_len (a_cons (e_var 5) a_nil)) a_nil))) (fun _ _ => rfl)))) ss_nil)
      (ss_one (s_expr (e_mm m_append (e_var 5) (a_cons (e_var 6) a_nil) (fun ho ha => pe_bm PySem.F.plainAttrs_list PySem.F.slot_list_append PySem.F.type_list_append mt_append ho ha)))))))
      (ss_one (s_ret (e_tup (a_cons e_str (a_cons (e_lc (own := [("_law_name", 6)]) (.nm 6) rfl nd (i_seq (e_var 5)) (blkOk_by (own := [("_law_name", 6)]) (N := N__law_raw) (sc := defScope s__law_raw) (by decide +kernel)) (by decide) (fun _ _ _ _ _ => (pg_name (i := 6) nd rfl (Or.inl rfl) (hf := Or.inr rfl))) (fun _ _ _ _ _ => ts_nil) (fun _ _ _ _ _ => (e_tup (a_cons (e_var 6) (a_cons (e_call C__law_raw (hr.mono (by omega)) (by rfl) takes0N (a_cons (e_var 0) (a_cons (e_op op_sub o_sub (e_var 1) e_int) a_nil))) a_nil))))) a_nil)))))))))))))) ?_
  · obtain ⟨a, d, c, rfl, hS, hc, hd0, hd1, hq⟩ := h
    rfl
  · walk_at "mono"
  · intro xs S Q X cQ cX h
    obtain ⟨a, d, c, rfl, hS, hc, hd0, hd1, hq⟩ := h
    have hT := T.facts
    simp only [KQ.startT, List.map_cons, List.map_nil, List.length_cons, List.length_nil, Nat.reduceAdd, Nat.reduceSub, List.replicate_succ, List.replicate_zero, List.cons_append, List.nil_append]
    obtain ⟨ns, at_, rest, seed, room, long, rfl, h0, h1⟩ := id hc
    simp only [room_src] at hq
    walk_at "vc"
    refine draw_ok put_same (src_ok h0 h1) (by decide) (by decide) fun r c1 r0 r1 d1 => ?_
    obtain ⟨ns1, at1, rest1, seed1, long1, e1, h01, h11⟩ := drw_src (c := srcT ns at_ rest seed (room - 1) long) d1
    rw [room_src] at e1
    subst e1
    have s1 := d1.ok
    have leaf : ∀ X', sp_some IsLeaf [.ref a] (put S a (srcT ns1 at1 rest1 seed1 (room - 1) long1)) Q X' := fun X' => some_ok put_same s1 fun y c2 hy d2 => by
      obtain ⟨w, rfl, w1, w2, w3, w4⟩ := leaf_raw hy
      have e3 : roomOf c2 = room - 1 := d2.rm
      rw [put_put]
      exact hq w c2 w2 (by rw [w3]; omega) (by rw [w4]; omega) (by omega) (by omega) d2.ok
    walk_at "vc"
    by_cases hd : d = 0
    · rw [if_pos hd]; exact leaf _
    rw [if_neg hd]
    by_cases hr0 : room - 1 ≤ 0
    · rw [if_pos hr0]; exact leaf _
    rw [if_neg hr0]
    by_cases hr3 : r < 3
    · rw [if_pos hr3]; exact leaf _
    rw [if_neg hr3]
    clear leaf
    refine draw_ok put_same s1 (by decide) (by decide) fun m c2 m0 m1 d2 => ?_
    have e2 : roomOf c2 = room - 1 := d2.rm
    intro p hp
    have key : ∀ (m : Int) (c2 : Tr), 0 ≤ m → m ≤ 12 → roomOf c2 = room - 1 → SrcOk c2 → p [some (.ref a), some (.int d), some (.int r), some (.int m), none, none, none] (put S a c2) := fun m c2 m0 m1 e2 s2 => hp.go _ _ (by
      clear hp
      walk_at "vc"
      split
      · skip
        refine ⟨by omega, by omega, lc_inv _ (fun i acc S' => ∃ (vs : List RawV) (c3 : Tr), acc = vs.map rT ∧ vs.length = i ∧ ROkL vs ∧ (rdepthL vs : Int) ≤ d - 1 ∧ (rpartsL vs : Int) = room - 1 - roomOf c3 ∧ -12 * (d - 1) - i ≤ roomOf c3 ∧ S' = put S a c3 ∧ SrcOk c3) ?_ ?_ ⟨[], c2, rfl, rfl, trivial, by show (0 : Int) ≤ _; omega, by show ((0 : Nat) : Int) = _; omega, by omega, rfl, s2⟩⟩
        · rintro i x acc S' N hx ⟨vs, c3, rfl, lv, ok, dp, np, rm3, rfl, s3⟩ hN
          have hi := (rng_at hx).2
          walk_at "vc"
          refine ⟨a, _, c3, rfl, put_same, s3, by omega, by omega, fun v c4 ok4 dp4 np4 r4 r4' s4 => ?_⟩
          walk_at "vc"
          refine ⟨szn (by omega), hN _ _ ⟨vs ++ [v], c4, by rw [List.map_append]; rfl, by rw [List.length_append, lv]; rfl, ok.snoc ok4, by rw [rdL_snoc]; omega, by rw [rpL_snoc]; omega, by omega, rfl, s4⟩⟩
        · rintro acc S' ⟨vs, c3, rfl, lv, ok, dp, np, rm3, rfl, s3⟩
          rw [rngT_len] at lv rm3
          walk_at "vc"
          have := hq (.row vs) c3 ok (by show ((1 + rdepthL vs : Nat) : Int) ≤ d; omega) (by show ((1 + rpartsL vs : Nat) : Int) = _; omega) (by omega) (by omega) s3
          rw [rT, rTL_map] at this
          exact this
      intro p hp
      have hS2 : put S a c2 a = some c2 := put_same
      have npa : p ≠ a := ne_cell hS2 hp
      have A1 : ∀ c x, put (put S a c) p x a = some c := fun c x => by rw [put_ne npa.symm]; exact put_same
      have B1 : ∀ c x d, put (put (put S a c) p x) a d = put (put S a d) p x := fun c x d => put3 npa _ _ _
      rw [put_ne npa] at hp
      replace hq := Hide.mk hq
      obtain ⟨t, rfl⟩ : ∃ t : Nat, m = (t : Int) := ⟨m.toNat, by omega⟩
      refine ⟨by omega, by omega, ?_⟩
      refine loop_inv _ (fun i ρ S2 => ∃ (ns : List Str) (c3 : Tr) (x4 x6 : Option Tr), ρ = [some (.ref a), some (.int d), some (.int r), some (.int t), x4, some (.ref p), x6] ∧ S2 = put (put S a c3) p (.lst (ns.map .str)) ∧ SrcOk c3 ∧ roomOf c3 = room - 1 ∧ ns.length = i ∧ ∀ n ∈ ns, LOk n) ?_ ?_ ⟨[], c2, _, _, rfl, rfl, s2, e2, rfl, fun _ h => nomatch h⟩
      · rintro i x ρ S2 N hx ⟨ns, c3, x4, x6, rfl, rfl, s3, e3, ln, on⟩ hN
        obtain ⟨rfl, hi⟩ := rng_at hx
        clear hx
        have hi15 : i < t := hi
        replace hN := Hide.mk hN
        have ee : ∀ z, gEq true (.lst (ns.map .str)) (.lst []) z = (z = .bl (true ^^ decide (ns = []))) := fun z => str_eqs (ys := []) on (fun _ h => nomatch h)
        replace on := Hide.mk on
        walk_at "vn"
        refine some_ok (A1 _ _) s3 fun y c4 hy d4 => ?_
        obtain ⟨k, rfl, hk⟩ := hy
        rw [B1]
        have hz := str_keyS hk
        have ev : ∀ S', vw S' (kT k) = kT k := fun S' => by cases k <;> rfl
        walk_at "vn"
        refine ⟨_, hz, ?_⟩
        intro P hP
        have key : ∀ (z : Str) (c5 : Tr), LOk z → SrcOk c5 → roomOf c5 = room - 1 → P [some (.ref a), some (.int d), some (.int r), some (.int t), some (.int i), some (.ref p), some (.str z)] (put (put S a c5) p (.lst (ns.map .str))) := fun z c5 oz s5 e5 => hP.go _ _ (by
          clear hP
          walk_at "vn"
          refine ⟨szn (by omega), hN.go _ _ ⟨ns ++ [z], c5, _, _, rfl, by rw [List.map_append]; rfl, s5, e5, by rw [List.length_append, ln]; rfl, fun n hn => ?_⟩⟩
          rcases List.mem_append.mp hn with hn | hn
          · exact on.go n hn
          · rw [List.mem_singleton.mp hn]; exact oz)
        have e4 : roomOf c4 = room - 1 := d4.rm.trans e3
        by_cases hn0 : ns = []
        · rw [if_neg (fun z => z hn0)]
          exact key (keyS k) c4 (keyS_lok hk) d4.ok e4
        · rw [if_pos hn0]
          have l0 : 0 < ns.length := List.length_pos_iff.mpr hn0
          refine draw_ok (A1 _ _) d4.ok (by decide) (by decide) fun r2 c5 r20 r21 d5 => ?_
          have e5 : roomOf c5 = room - 1 := d5.rm.trans e4
          rw [B1]
          walk_at "vn"
          by_cases hr : r2 = 0
          · rw [if_pos hr]
            refine draw_ok (A1 _ _) d5.ok (by omega) (by omega) fun r3 c6 r30 r31 d6 => ?_
            have e6 : roomOf c6 = room - 1 := d6.rm.trans e5
            rw [B1]
            walk_at "vn"
            refine menu_ex (n := ns.length) (by rw [List.length_map]) r30 (by omega) fun x hx => ?_
            obtain ⟨z, hz2, rfl⟩ := List.mem_map.mp hx
            exact key z c6 (on.go z hz2) d6.ok e6
          · rw [if_neg hr]
            exact key (keyS k) c5 (keyS_lok hk) d5.ok e5
      · rintro ρ S2 ⟨ns, c3, x4, x6, rfl, rfl, s3, e3, ln, on⟩
        rw [rngT_len] at ln
        have ln : ns.length = t := ln
        walk_at "vn"
        refine lc_inv _ (fun i acc S2 => ∃ (ws : List RawV) (c4 : Tr), acc = rTP (ns.take i) ws ∧ ws.length = i ∧ S2 = put (put S a c4) p (.lst (ns.map .str)) ∧ SrcOk c4 ∧ ROkL ws ∧ (rdepthL ws : Int) ≤ d - 1 ∧ (rpartsL ws : Int) = room - 1 - roomOf c4 ∧ -12 * (d - 1) - i ≤ roomOf c4) ?_ ?_ ⟨[], c3, by rw [List.take_zero, rTP]; intros; simp_all, rfl, rfl, s3, trivial, by show (0 : Int) ≤ _; omega, by show ((0 : Nat) : Int) = _; omega, by omega⟩
        · rintro i x acc S2 N hx ⟨ws, c4, rfl, lw, rfl, s4, ok, dp, np, rm4⟩ hN
          rw [List.getElem?_map] at hx
          obtain ⟨n, hn, rfl⟩ := Option.map_eq_some_iff.mp hx
          have hi := (List.getElem?_eq_some_iff.mp hn).1
          clear hx
          replace hN := Hide.mk hN
          have lt : (rTP (ns.take i) ws).length < sizeLine := szn (by rw [rTP_zip, List.length_map, List.length_zip]; omega)
          walk_at "vn"
          refine ⟨a, _, c4, rfl, A1 _ _, s4, by omega, by omega, fun v c5 ok5 dp5 np5 r5 r5' s5 => ?_⟩
          rw [B1]
          subst lw
          exact hN.go _ _ ⟨ws ++ [v], c5, (rTP_take hn).symm, by rw [List.length_append]; rfl, rfl, s5, ok.snoc ok5, by rw [rdL_snoc]; omega, by rw [rpL_snoc]; omega, by omega⟩
        · rintro acc S2 ⟨ws, c4, rfl, lw, rfl, s4, ok, dp, np, rm4⟩
          rw [List.length_map] at lw rm4
          rw [List.length_map, List.take_of_length_le (Nat.le_refl _)]
          have := hq.go (.tab ns ws) c4 ⟨ok, lw.symm, on⟩ (by show ((1 + rdepthL ws : Nat) : Int) ≤ d; omega) (by show ((1 + rpartsL ws : Nat) : Int) = _; omega) (by omega) (by omega) s4
          rw [rT] at this
          refine ⟨?_, cQ.drop (sub_new (by rw [put_ne npa]; exact hp)) this⟩
          walk_at "vn")
    clear hp
    refine draw_ok put_same d2.ok (by decide) (by decide) fun r2 c3 r20 r21 d3 => ?_
    walk_at "vc"
    have e3 : roomOf c3 = room - 1 := d3.rm.trans e2
    split
    · refine draw_ok put_same d3.ok (by decide) (by decide) fun r4 c4 r40 r41 d4 => ?_
      walk_at "vc"
      exact key _ _ r40 (by omega) (d4.rm.trans e3) d4.ok
    · exact key _ _ m0 (by omega) e3 d3.ok
theorem ok__law_raw (T : Top K mg A) {k : Nat} (C__law_draw : CalleeT P w K mg base k "_law_draw" ["_law_source_here", "_law_many"] (sp_draw)) (C__law_key : CalleeT P w K mg base k "_law_key" ["_law_source_here"] (sp_some IsKey)) (C__law_leaf : CalleeT P w K mg base k "_law_leaf" ["_law_source_here"] (sp_some IsLeaf)) : ∀ n, CalleeT P w K mg base (k + 1 * n) "_law_raw" ["_law_source_here", "_law_depth"] (sp_raw n)
  | 0 => Def.botT (N := N__law_raw) T.d__law_raw (fun _ _ _ _ _ _ us hl => match us, hl with | [_, _], _ => rfl) (fun xs S Q X h => by
      obtain ⟨a, d, c, _, _, _, h0, h1, _⟩ := h
      omega)
  | n + 1 => by
    have C__law_raw_0 := ok__law_raw (k := k) T C__law_draw C__law_key C__law_leaf n
    exact (step__law_raw T (k := k + 1 * n + 0) (C__law_draw.lift (by omega)) (C__law_key.lift (by omega)) (C__law_leaf.lift (by omega)) (C__law_raw_0.lift (by omega))).lift (by omega)

/-! ### _law_raw_deep -/
abbrev N__law_raw_deep : List Str := ["_law_source_here", "_law_depth", "_law_room", "_law_raw_here", "_law_wraps", "_law_k"]
theorem sc__law_raw_deep : FnScope N__law_raw_deep ["_law_source_here", "_law_depth", "_law_room"] (defScope s__law_raw_deep) := ⟨rfl, rfl, rfl, by decide +kernel, rfl, by decide +kernel, by decide +kernel⟩
def sp_rawdeep : TSp := fun xs S Q X => ∃ (a : Addr) (d rr : Int) (c : Tr), xs = [.ref a, .int d, .int rr] ∧ S a = some c ∧ SrcOk c ∧ 0 ≤ d ∧ d < 5 ∧ 1 ≤ rr ∧ rr ≤ 1000 ∧ ∀ (v : RawV) (c' : Tr), ROk v → rdepth v ≤ 60 → (rparts v : Int) ≤ rr + 12 * d + 62 → SrcOk c' → Q (rT v) (put S a c')
theorem ok__law_raw_deep (T : Top K mg A) {k : Nat} (C__law_draw : CalleeT P w K mg base k "_law_draw" ["_law_source_here", "_law_many"] (sp_draw)) (C__law_key : CalleeT P w K mg base k "_law_key" ["_law_source_here"] (sp_some IsKey)) (C__law_raw : CalleeT P w K mg base k "_law_raw" ["_law_source_here", "_law_depth"] (sp_raw 5))  : CalleeT P w K mg base (k + 1) "_law_raw_deep" ["_law_source_here", "_law_depth", "_law_room"] (sp_rawdeep) := by
  have nd := sc__law_raw_deep.nd
  refine Def.okT T.d__law_raw_deep sc__law_raw_deep (fun _ _ _ _ _ _ us hl => match us, hl with | [_, _, _], _ => rfl) (fun xs S Q X h => ?_) ?_ (fun f cdv AA outer s H E hr tk po => have hu := hu_of hr; (ss_cons (s_dput hu (e_var 0) e_str (e_var 2) rfl)
      (ss_cons (s_set (i := 3) nd rfl (Or.inl rfl) (e_call C__law_raw (hr.mono (by omega)) (by rfl) tk (a_cons (e_var 0) (a_cons (e_var 1) a_nil))))
      (ss_cons (s_set (i := 4) nd rfl (Or.inl rfl) e_int)
      (ss_cut (s_if (t_cmp (eq_op hr) o_eq (e_call C__law_draw (hr.mono (by omega)) (by rfl) tk (a_cons (e_var 0) (a_cons e_int a_nil))) e_int (nomark _)) (ss_one (s_set (i := 4) nd rfl (Or.inl rfl) (e_call C__law_draw (hr.mono (by omega)) (by rfl) tk (a_cons (e_var 0) (a_cons (e_op op_sub o_sub e_int (e_var 1)) a_nil))))) ss_nil)
      (ss_cons (s_for (.nm 5) po rfl (i_rng1 (by rfl) T.b.b_range (a_cons (e_var 4) a_nil)) (pg_name (i := 5) nd rfl (Or.inl rfl)) (ss_one (s_if (t_cmp (eq_op hr) o_eq (e_call C__law_draw (hr.mono (by omega)) (by rfl) tk (a_cons (e_var 0) (a_cons e_int a_nil))) e_int (nomark _)) (ss_one (s_set (i := 3) nd rfl (Or.inl rfl) (e_tup (a_cons e_str (a_cons (e_lst (a_cons (e_var 3) a_nil)) a_nil))))) (ss_one (s_set (i := 3) nd rfl (Or.inl rfl) (e_tup (a_cons e_str (a_cons (e_lst (a_cons (e_tup (a_cons (e_callTy str4 c_str4 (by rfl) T.b.b_str boot_str (a_cons (e_call C__law_key (hr.mono (by omega)) (by rfl) tk (a_cons (e_var 0) a_nil)) a_nil)) (a_cons (e_var 3) a_nil))) a_nil)) a_nil))))))))
      (ss_one (s_ret (e_var 3))))))))) ?_
  · obtain ⟨a, d, rr, c, rfl, hS, hc, hd0, hd1, hr0, hr1, hq⟩ := h
    rfl
  · walk_at "mono"
  · intro xs S Q X cQ cX h
    obtain ⟨a, d, rr, c, rfl, hS, hc, hd0, hd1, hr0, hr1, hq⟩ := h
    have hT := T.facts
    simp only [KQ.startT, List.map_cons, List.map_nil, List.length_cons, List.length_nil, Nat.reduceAdd, Nat.reduceSub, List.replicate_succ, List.replicate_zero, List.cons_append, List.nil_append]
    obtain ⟨ns, at_, rest, seed, room, long, rfl, h0, h1⟩ := id hc
    walk_at "vc"
    refine ⟨a, d, _, rfl, put_same, src_ok h0 h1, hd0, by omega, fun v c1 ok dp np b1 b2 s1 => ?_⟩
    have np : (rparts v : Int) = rr - roomOf c1 := np
    have b1 : 1 ≤ rr → -12 * d ≤ roomOf c1 := b1
    walk_at "vc"
    intro p hp
    have key : ∀ (w : Int) (c2 : Tr), 0 ≤ w → w ≤ 60 - d → SrcOk c2 → p [some (.ref a), some (.int d), some (.int rr), some (rT v), some (.int w), none] (put S a c2) := fun w c2 w0 w1 s2 => hp.go _ _ (by
      clear hp
      walk_at "vc"
      refine ⟨by omega, by omega, loop_inv _ (fun i ρ S' => ∃ (v3 : RawV) (x : Option Tr) (c3 : Tr), ρ = [some (.ref a), some (.int d), some (.int rr), some (rT v3), some (.int w), x] ∧ S' = put S a c3 ∧ ROk v3 ∧ (rdepth v3 : Int) ≤ d + i ∧ (rparts v3 : Int) ≤ rr + 12 * d + 1 + i ∧ SrcOk c3) ?_ ?_ ⟨v, none, c2, rfl, rfl, ok, by omega, by omega, s2⟩⟩
      · rintro i x ρ S' N hx ⟨v3, x3, c3, rfl, rfl, ok3, dp3, np3, s3⟩ hN
        walk_at "vc"
        refine draw_ok put_same s3 (by decide) (by decide) fun y c4 y0 y1 d4 => ?_
        walk_at "vc"
        split
        · exact hN _ _ ⟨.row [v3], _, c4, by rw [rT, rTL, rTL], rfl, ⟨ok3, trivial⟩, by show ((1 + max (rdepth v3) 0 : Nat) : Int) ≤ _; omega, by show ((1 + (rparts v3 + 0) : Nat) : Int) ≤ _; omega, d4.ok⟩
        · refine some_ok put_same d4.ok fun y5 c5 ⟨k, e, kok⟩ d5 => ?_
          subst e
          have hz := str_keyS kok
          have ev : ∀ S', vw S' (kT k) = kT k := fun S' => by cases k <;> rfl
          walk_at "vc"
          refine ⟨_, hz, ?_⟩
          exact hN _ _ ⟨.tab [keyS k] [v3], _, c5, by rw [rT, rTP_zip]; rfl, rfl, ⟨⟨ok3, trivial⟩, rfl, fun j hj => by rw [List.mem_singleton.mp hj]; exact keyS_lok kok⟩, by show ((1 + max (rdepth v3) 0 : Nat) : Int) ≤ _; omega, by show ((1 + (rparts v3 + 0) : Nat) : Int) ≤ _; omega, d5.ok⟩
      · rintro ρ S' ⟨v3, x3, c3, rfl, rfl, ok3, dp3, np3, s3⟩
        rw [rngT_len] at dp3 np3
        walk_at "vc"
        exact hq v3 c3 ok3 (by omega) (by omega) s3)
    refine draw_ok put_same s1 (by decide) (by decide) fun r2 c2 r20 r21 d2 => ?_
    walk_at "vc"
    split
    · refine draw_ok put_same d2.ok (by omega) (by omega) fun r3 c3 r30 r31 d3 => ?_
      walk_at "vc"
      exact key _ _ r30 (by omega) d3.ok
    · exact key _ _ (by omega) (by omega) d2.ok

/-! ### Scanner.here -/
abbrev N_Scanner_here : List Str := ["self"]
theorem sc_Scanner_here : FnScope N_Scanner_here ["self"] (defScope s_Scanner_here) := ⟨rfl, rfl, rfl, by decide +kernel, rfl, by decide +kernel, by decide +kernel⟩
def sp_here (C : Addr) : TSp := fun xs S Q X => ∃ (p : Addr) (z : Str) (r : List Nat) (d : Nat), xs = [.ref p] ∧ S p = some (scT C z r d) ∧ ZS z r ∧ Q (.str (mkS (r.take 1))) S
theorem ok_Scanner_here (T : Top K mg A) {k : Nat}   : MthT P w K mg base (k + 1) A.Scanner "here" (sp_here A.Scanner) := by
  have nd := sc_Scanner_here.nd
  refine DefM.mth T.m_Scanner_here T.c_Scanner.ci.cl sc_Scanner_here (fun _ _ _ _ _ _ us hl => match us, hl with | [_], _ => rfl) (fun xs S Q X h => ?_) ?_ ⟨fun f cdv AA outer s H E hr tk po => have hu := hu_of hr; (ss_one (s_ret (e_slice (e_fldK (K := K) rfl (e_var 0) rfl) (o_some (e_fldK (K := K) rfl (e_var 0) rfl)) (o_some (e_op ad_op o_add (e_fldK (K := K) rfl (e_var 0) rfl) e_int)))))⟩ ?_
  · obtain ⟨p, z, r, d, rfl, hS, hz, hq⟩ := h
    rfl
  · walk_at "mono"
  · intro xs S Q X cQ cX h
    obtain ⟨p, z, r, d, rfl, hS, hz, hq⟩ := h
    have hT := T.facts
    simp only [KQ.startT, List.map_cons, List.map_nil, List.length_cons, List.length_nil, Nat.reduceAdd, Nat.reduceSub, List.replicate_succ, List.replicate_zero, List.cons_append, List.nil_append]
    have le := hz.le
    have ll := hz.len
    have e : cutS z (some ((z.length - r.length : Nat) : Int)) (some (((z.length - r.length : Nat) : Int) + 1)) = mkS (r.take 1) := by
      refine TL.ext_tl ?_
      rw [KB.tl_cutS, tl_mkS, show ((z.length - r.length : Nat) : Int) + 1 = ((z.length - r.length + 1 : Nat) : Int) by omega, HT.sIx_nat, HT.sIx_nat, Nat.min_eq_left (Nat.sub_le _ _)]
      rw [suf_drop hz.suf]
      cases hr : r with
      | nil => simp
      | cons c r' =>
        rw [hr] at le
        simp only [List.length_cons] at le ⊢
        rw [Nat.min_eq_left (by omega), show z.length - (r'.length + 1) + 1 - (z.length - (r'.length + 1)) = 1 by omega]
    unfold scT at hS
    replace hq := Hide.mk hq
    walk_at "vn"
    exact ⟨szM ll, hq.go⟩

/-! ### NotText.__init__ -/
abbrev N_NotText___init__ : List Str := ["self", "position"]
theorem sc_NotText___init__ : FnScope N_NotText___init__ ["self", "position"] (defScope s_NotText___init__) := ⟨rfl, rfl, rfl, by decide +kernel, rfl, by decide +kernel, by decide +kernel⟩
theorem ok_NotText___init__ (T : Top K mg A) {k : Nat} : ExcT P w K mg base (k + 1) "NotText" A.NotText ["position"] :=
  DefM.excT T.m_NotText___init__ T.ox_NotText T.c_NotText.mg (List.forall_mem_cons.2 ⟨T.nf_NotText_position, fun _ h => nomatch h⟩) sc_NotText___init__ (fun _ _ _ _ _ _ us hl => match us, hl with | [_, _], _ => rfl) rfl (by decide) (by decide) (by decide) (fun _ _ _ _ _ h => start_at h) (fun f cdv A outer s H E => (pss_one (ps_ost (pv 0) (pv 1))))

/-! ### Scanner.expect -/
abbrev N_Scanner_expect : List Str := ["self", "sign"]
theorem sc_Scanner_expect : FnScope N_Scanner_expect ["self", "sign"] (defScope s_Scanner_expect) := ⟨rfl, rfl, rfl, by decide +kernel, rfl, by decide +kernel, by decide +kernel⟩
def sp_expect (C N D : Addr) : TSp := fun xs S Q X => ∃ (p : Addr) (z : Str) (r : List Nat) (d k : Nat), xs = [.ref p, .str (mkS [k])] ∧ S p = some (scT C z r d) ∧ ZS z r ∧
  (∀ r', pEx k r = .ok r' → Q .non (put S p (scT C z r' d))) ∧ ∀ e c', pEx k r = .error e → X (.ref (errC N D e)) ["position"] [posT z e] (put S p c')
theorem ok_Scanner_expect (T : Top K mg A) {k : Nat} (M_Scanner_here : MthT P w K mg base k A.Scanner "here" (sp_here A.Scanner)) (X_NotText : ExcT P w K mg base k "NotText" A.NotText ["position"])  : MthT P w K mg base (k + 1 + 1) A.Scanner "expect" (sp_expect A.Scanner A.NotText A.TooDeep) := by
  have nd := sc_Scanner_expect.nd
  refine DefM.mth T.m_Scanner_expect T.c_Scanner.ci.cl sc_Scanner_expect (fun _ _ _ _ _ _ us hl => match us, hl with | [_, _], _ => rfl) (fun xs S Q X h => ?_) ?_ ⟨fun f cdv AA outer s H E hr tk po => have hu := hu_of hr; (ss_cons (s_if (t_cmp (ne_op hr) o_eq (e_meth0 (ms := fun C t => C = A.Scanner ∧ t = (sp_here A.Scanner)) (fun C t h => by obtain ⟨rfl, rfl⟩ := h; exact M_Scanner_here) (hr.mono (by omega)) tk (e_var 0)) (e_var 1) (nomark _)) (ss_one (s_raise X_NotText rfl (hr.mono (by omega)) (by rfl) tk (a_cons (e_fldK (K := K) rfl (e_var 0) rfl) a_nil))) ss_nil)
      (ss_one (s_fldaugK (K := K) (g := fun i j => i + j) rfl (e_var 0) e_int (fun ho he => ps_fldaug ho he in_add))))⟩ ?_
  · obtain ⟨p, z, r, d, k, rfl, hS, hz, h1, h2⟩ := h
    rfl
  · walk_at "mono"
  · intro xs S Q X cQ cX h
    obtain ⟨p, z, r, d, k, rfl, hS, hz, h1, h2⟩ := h
    have hT := T.facts
    simp only [KQ.startT, List.map_cons, List.map_nil, List.length_cons, List.length_nil, Nat.reduceAdd, Nat.reduceSub, List.replicate_succ, List.replicate_zero, List.cons_append, List.nil_append]
    replace h1 := Hide.mk h1
    replace h2 := Hide.mk h2
    unfold scT at hS
    walk_at "vn"
    refine ⟨p, z, r, d, rfl, hS, hz, ?_⟩
    walk_at "vn"
    by_cases hh : r.head? = some k
    · rw [if_neg (fun n => n (hd_k.mpr hh))]
      obtain ⟨t, rfl⟩ := head_cons hh
      have := h1.go t pEx_yes
      unfold scT at this
      rw [at_tail hz.le]
      exact ⟨by decide, this⟩
    · rw [if_pos (fun n => hh (hd_k.mp n))]
      have := h2.go (.nott r) (scT A.Scanner z r d) (pEx_no hh)
      unfold scT at this
      rw [put_id hS] at this
      exact this

/-! ### Scanner.read_string -/
abbrev N_Scanner_read_string : List Str := ["self", "signs", "sign"]
theorem sc_Scanner_read_string : FnScope N_Scanner_read_string ["self"] (defScope s_Scanner_read_string) := ⟨rfl, rfl, rfl, by decide +kernel, rfl, by decide +kernel, by decide +kernel⟩
def sp_rstr (C N D : Addr) : TSp := fun xs S Q X => ∃ (p : Addr) (z : Str) (r : List Nat) (d : Nat), xs = [.ref p] ∧ S p = some (scT C z r d) ∧ ZS z r ∧
  (∀ q, pStr r = .ok q → Q (.str (mkS q.1)) (put S p (scT C z q.2 d))) ∧ ∀ e c', pStr r = .error e → X (.ref (errC N D e)) ["position"] [posT z e] (put S p c')
theorem ok_Scanner_read_string (T : Top K mg A) {k : Nat} (M_Scanner_expect : MthT P w K mg base k A.Scanner "expect" (sp_expect A.Scanner A.NotText A.TooDeep)) (M_Scanner_here : MthT P w K mg base k A.Scanner "here" (sp_here A.Scanner)) (X_NotText : ExcT P w K mg base k "NotText" A.NotText ["position"])  : MthT P w K mg base (k + 1 + 1) A.Scanner "read_string" (sp_rstr A.Scanner A.NotText A.TooDeep) := by
  have nd := sc_Scanner_read_string.nd
  refine DefM.mth T.m_Scanner_read_string T.c_Scanner.ci.cl sc_Scanner_read_string (fun _ _ _ _ _ _ us hl => match us, hl with | [_], _ => rfl) (fun xs S Q X h => ?_) ?_ ⟨fun f cdv AA outer s H E hr tk po => have hu := hu_of hr; (ss_cons (s_expr (e_meth (ms := fun C t => C = A.Scanner ∧ t = (sp_expect A.Scanner A.NotText A.TooDeep)) (fun C t h => by obtain ⟨rfl, rfl⟩ := h; exact M_Scanner_expect) (hr.mono (by omega)) tk (e_var 0) (a_cons e_str a_nil)))
      (ss_cons (s_set (i := 1) nd rfl (Or.inl rfl) (e_lstC a_nil))
      (ss_cons (s_whileN (i := 2) po nd rfl (Or.inl rfl) (ne_op hr) o_eq (e_meth0 (ms := fun C t => C = A.Scanner ∧ t = (sp_here A.Scanner)) (fun C t h => by obtain ⟨rfl, rfl⟩ := h; exact M_Scanner_here) (hr.mono (by omega)) tk (e_var 0)) e_str (nomark _) (ss_cut (s_if (t_cmp (eq_op hr) o_eq (e_var 2) e_str (nomark _)) (ss_cons (s_fldaugK (K := K) (g := fun i j => i + j) rfl (e_var 0) e_int (fun ho he => ps_fldaug ho he in_add))
      (ss_cons (s_set (i := 2) nd rfl (Or.inl rfl) (e_meth0 (ms := fun C t => C = A.Scanner ∧ t = (sp_here A.Scanner)) (fun C t h => by obtain ⟨rfl, rfl⟩ := h; exact M_Scanner_here) (hr.mono (by omega)) tk (e_var 0)))
      (ss_one (s_if (t_cmp (notin_op hr) o_in (e_var 2) (e_tup (a_cons e_str (a_cons e_str a_nil))) (by with_unfolding_all rfl)) (ss_one (s_raise X_NotText rfl (hr.mono (by omega)) (by rfl) tk (a_cons (e_fldK (K := K) rfl (e_var 0) rfl) a_nil))) ss_nil)))) ss_nil)
      (ss_cons (s_if (t_cmp (eq_op hr) o_eq (e_var 2) e_str (nomark _)) (ss_one (s_raise X_NotText rfl (hr.mono (by omega)) (by rfl) tk (a_cons (e_fldK (K := K) rfl (e_var 0) rfl) a_nil))) ss_nil)
      (ss_cons (s_expr (e_mm m_append (e_var 1) (a_cons (e_var 2) a_nil) (fun ho ha => pe_bm PySem.F.plainAttrs_list PySem.F.slot_list_append PySem.F.type_list_append mt_append ho ha)))
      (ss_one (s_fldaugK (K := K) (g := fun i j => i + j) rfl (e_var 0) e_int (fun ho he => ps_fldaug ho he in_add)))))))
      (ss_cons (s_fldaugK (K := K) (g := fun i j => i + j) rfl (e_var 0) e_int (fun ho he => ps_fldaug ho he in_add))
      (ss_one (s_ret (e_mt PySem.F.plainAttrs_str PySem.F.slot_str_join PySem.F.type_str_join mt_join m_join e_str (a_cons (e_var 1) a_nil) (fun ho ha => pe_bm PySem.F.plainAttrs_str PySem.F.slot_str_join PySem.F.type_str_join mt_join ho ha))))))))⟩ ?_
  · obtain ⟨p, z, r, d, rfl, hS, hz, h1, h2⟩ := h
    rfl
  · walk_at "mono"
  · intro xs S Q X cQ cX h
    obtain ⟨p, z, r, d, rfl, hS, hz, h1, h2⟩ := h
    have hT := T.facts
    simp only [KQ.startT, List.map_cons, List.map_nil, List.length_cons, List.length_nil, Nat.reduceAdd, Nat.reduceSub, List.replicate_succ, List.replicate_zero, List.cons_append, List.nil_append]
    replace h1 := Hide.mk h1
    replace h2 := Hide.mk h2
    unfold scT at hS
    walk_at "vn"
    refine ⟨p, z, r, d, 34, by rw [q34], hS, hz, fun r1 e1 => ?_, fun e c' e1 => h2.go e c' (by unfold pStr; rw [e1])⟩
    intro p1 hp1
    have np : p1 ≠ p := fun e => by subst e; rw [put_same] at hp1; cases hp1
    have hz1 : ZS z r1 := hz.up ((pEx_suf 34 r).1 _ e1)
    have k1 : ∀ q, pSt r1 = .ok q → Q (.str (mkS q.1)) (put S p (scT A.Scanner z q.2 d)) := fun q hq => h1.go q (by unfold pStr; rw [e1]; exact hq)
    have k2 : ∀ e c' c2, pSt r1 = .error e → X (.ref (errC A.NotText A.TooDeep e)) ["position"] [posT z e] (put (put S p c') p1 c2) := fun e c' c2 hq => cX _ _ _ _ _ (sub_new (by rw [put_ne np] at hp1 ⊢; exact hp1)) (h2.go e c' (by unfold pStr; rw [e1]; exact hq))
    clear h1 h2
    replace k1 := Hide.mk k1
    replace k2 := Hide.mk k2
    refine ⟨fun m ρ S' => ∃ (r' acc : List Nat) (x2 : Option Tr), m = r'.length ∧ ρ = [some (.ref p), some (.ref p1), x2] ∧ S' = put (put S p (scT A.Scanner z r' d)) p1 (.lst (acc.map sgnT)) ∧ ZS z r' ∧ acc.length + r'.length ≤ z.length ∧ pSt r1 = (match pSt r' with | .error e => .error e | .ok q => .ok (acc ++ q.1, q.2)), ⟨r1.length, r1, [], _, rfl, rfl, rfl, hz1, by simpa using hz1.le, by cases pSt r1 <;> rfl⟩, ?_⟩
    rintro m ρ S' ⟨r', acc, x2, rfl, rfl, rfl, hz', la, hp⟩
    have hp' := Hide.mk hp
    clear hp
    have v1 : ∀ c c2, put (put S p c) p1 c2 p = some c := fun c c2 => by rw [put_ne np.symm]; exact put_same
    unfold scT
    walk_at "vn"
    refine ⟨p, z, r', d, rfl, v1 _ _, hz', ?_⟩
    walk_at "vn"
    by_cases hh : r'.head? = some 34
    · rw [if_neg (fun n => n ((hd_eq (s := "\"") (by decide +kernel)).mpr hh)), put3 np]
      obtain ⟨t, rfl⟩ := head_cons hh
      rw [at_tail hz'.le, put_same]
      have ps : pSt r1 = .ok (acc, t) := by
        rw [hp'.go]
        unfold pSt
        simp
      have res := k1.go _ ps
      unfold scT at res
      have n0 : ∀ c, put S p c p1 = none := fun c => by rw [put_ne np] at hp1 ⊢; exact hp1
      refine ⟨by decide, _, ⟨acc.map fun c => ⟨#[c]⟩, ?_, ?_, rfl⟩, ?_⟩
      · rw [List.map_map]; rfl
      · have ll := hz.len
        have : ((acc.map fun c => (⟨#[c]⟩ : Str)).map (·.length)).sum = acc.length := by
          rw [KB.len_ones (fun z hz => by obtain ⟨c, _, rfl⟩ := List.mem_map.mp hz; rfl), List.length_map]
        rw [this]
        have e0 : (Str.ofString "").length = 0 := by decide +kernel
        rw [e0, Nat.mul_zero]
        omega
      · rw [join_sgn]
        exact cQ.drop (sub_new (n0 _)) res
    rw [if_pos (fun n => hh ((hd_eq (s := "\"") (by decide +kernel)).mp n))]
    intro P hP
    have pe : r' = [] → P [some (.ref p), some (.ref p1), some (.str (mkS []))] (put (put S p (.ins A.Scanner ["text", "at", "depth"] [.str z, .int ((z.length - r'.length : Nat) : Int), .int d])) p1 (.lst (acc.map sgnT))) := fun e => hP.go _ _ (by
      clear hP
      subst e
      have ps : pSt r1 = .error (.nott []) := by rw [hp'.go]; rfl
      have xx := k2.go _ (scT A.Scanner z [] d) (.lst (acc.map sgnT)) ps
      unfold scT at xx
      replace xx := Hide.mk xx
      clear k1 k2
      walk_at "vn"
      rw [if_pos q0]
      exact xx.go)
    have pc : ∀ (c : Nat) (t : List Nat), ZS z (c :: t) → (c :: t).length ≤ r'.length → pSt r1 = (match pSt t with | .error e => .error e | .ok q => .ok (acc ++ c :: q.1, q.2)) → P [some (.ref p), some (.ref p1), some (.str (mkS [c]))] (put (put S p (.ins A.Scanner ["text", "at", "depth"] [.str z, .int ((z.length - (c :: t).length : Nat) : Int), .int d])) p1 (.lst (acc.map sgnT))) := fun c t zc lc ps => hP.go _ _ (by
      clear hP pe
      have zl := hz.len
      have ps' := Hide.mk ps
      clear ps
      walk_at "vn"
      rw [if_neg q1]
      refine ⟨szM' (by omega), by decide, _, ?_, t, rfl, acc ++ [c], ?_, zc.up (List.suffix_cons _ _), ?_, ?_⟩
      · simp only [List.length_cons] at lc; omega
      · rw [put3 np, at_tail zc.le, List.map_append]; rfl
      · simp only [List.length_cons, List.length_append, List.length_nil] at lc ⊢; omega
      · rw [ps'.go]; cases pSt t <;> simp)
    clear hP
    by_cases hb : r'.head? = some 92
    · rw [if_pos ((hd_eq (s := "\\") (by decide +kernel)).mpr hb), put3 np]
      obtain ⟨t, rfl⟩ := head_cons hb
      rw [at_tail hz'.le]
      refine ⟨by decide, p, z, t, d, rfl, v1 _ _, hz'.up (List.suffix_cons _ _), ?_⟩
      walk_at "vn"
      have iv : inV (V.str (mkS (List.take 1 t))) [V.str (Str.ofString "\""), V.str (Str.ofString "\\")] = decide (t.head? = some 34 ∨ t.head? = some 92) := by
        have h := str_in (mkS (List.take 1 t)) [("\"" : Str), "\\"]
        refine (show _ = _ from h).trans ?_
        rw [decide_eq_decide]
        simp only [List.mem_cons, List.not_mem_nil, or_false]
        rw [hd_eq (s := "\"") (k := 34) (by decide +kernel), hd_eq (s := "\\") (k := 92) (by decide +kernel)]
      refine ⟨[V.str (Str.ofString "\""), V.str (Str.ofString "\\")], rfl, ?_⟩
      rw [iv]
      by_cases hd : t.head? = some 34 ∨ t.head? = some 92
      · rw [decide_eq_true hd, if_neg (by decide)]
        cases t with
        | nil => rcases hd with h | h <;> cases h
        | cons c r2 =>
          refine pc c r2 (hz'.up (List.suffix_cons _ _)) (by simp) ?_
          rw [hp'.go, show pSt (92 :: c :: r2) = (match pSt r2 with | .error e => .error e | .ok q => .ok (c :: q.1, q.2)) by
            rw [pSt.eq_def]; dsimp only; rw [if_neg (by decide), if_pos rfl, if_pos (by rcases hd with h | h <;> (cases h; simp))]; all_goals (cases pSt r2 <;> rfl)]
          all_goals (cases pSt r2 <;> rfl)
      · rw [decide_eq_false hd, if_pos rfl]
        have ps : pSt r1 = .error (.nott t) := by
          rw [hp'.go]
          cases t with
          | nil => rfl
          | cons c r2 =>
            rw [show pSt (92 :: c :: r2) = .error (.nott (c :: r2)) by
              rw [pSt.eq_def]; dsimp only; rw [if_neg (by decide), if_pos rfl, if_neg (fun q => hd (by rcases q with h | h <;> simp [h]))]]
        have xx := k2.go _ (scT A.Scanner z t d) (.lst (acc.map sgnT)) ps
        unfold scT at xx
        exact xx
    rw [if_neg (fun n => hb ((hd_eq (s := "\\") (by decide +kernel)).mp n))]
    cases r' with
    | nil => exact pe rfl
    | cons c t =>
      refine pc c t hz' (Nat.le_refl _) ?_
      rw [hp'.go]
      have h1 : ¬ c = 34 := fun e => hh (by rw [e]; rfl)
      have h2 : ¬ c = 92 := fun e => hb (by rw [e]; rfl)
      rw [show pSt (c :: t) = (match pSt t with | .error e => .error e | .ok q => .ok (c :: q.1, q.2)) by rw [pSt.eq_def]; dsimp only; rw [if_neg h1, if_neg h2]; all_goals (cases pSt t <;> rfl)]
      all_goals (cases pSt t <;> rfl)

/-! ### Scanner.skip_blanks -/
abbrev N_Scanner_skip_blanks : List Str := ["self"]
theorem sc_Scanner_skip_blanks : FnScope N_Scanner_skip_blanks ["self"] (defScope s_Scanner_skip_blanks) := ⟨rfl, rfl, rfl, by decide +kernel, rfl, by decide +kernel, by decide +kernel⟩
def sp_skip (C : Addr) : TSp := fun xs S Q X => ∃ (p : Addr) (z : Str) (r : List Nat) (d : Nat), xs = [.ref p] ∧ S p = some (scT C z r d) ∧ ZS z r ∧ Q .non (put S p (scT C z (blk r) d))
theorem ok_Scanner_skip_blanks (T : Top K mg A) {k : Nat} (M_Scanner_here : MthT P w K mg base k A.Scanner "here" (sp_here A.Scanner))  : MthT P w K mg base (k + 1) A.Scanner "skip_blanks" (sp_skip A.Scanner) := by
  have nd := sc_Scanner_skip_blanks.nd
  refine DefM.mth T.m_Scanner_skip_blanks T.c_Scanner.ci.cl sc_Scanner_skip_blanks (fun _ _ _ _ _ _ us hl => match us, hl with | [_], _ => rfl) (fun xs S Q X h => ?_) ?_ ⟨fun f cdv AA outer s H E hr tk po => have hu := hu_of hr; (ss_one (s_while po (t_cmp (eq_op hr) o_eq (e_meth0 (ms := fun C t => C = A.Scanner ∧ t = (sp_here A.Scanner)) (fun C t h => by obtain ⟨rfl, rfl⟩ := h; exact M_Scanner_here) (hr.mono (by omega)) tk (e_var 0)) e_str (nomark _)) (ss_one (s_fldaugK (K := K) (g := fun i j => i + j) rfl (e_var 0) e_int (fun ho he => ps_fldaug ho he in_add)))))⟩ ?_
  · obtain ⟨p, z, r, d, rfl, hS, hz, hq⟩ := h
    rfl
  · walk_at "mono"
  · intro xs S Q X cQ cX h
    obtain ⟨p, z, r, d, rfl, hS, hz, hq⟩ := h
    have hT := T.facts
    simp only [KQ.startT, List.map_cons, List.map_nil, List.length_cons, List.length_nil, Nat.reduceAdd, Nat.reduceSub, List.replicate_succ, List.replicate_zero, List.cons_append, List.nil_append]
    replace hq := Hide.mk hq
    walk_at "vn"
    refine ⟨fun m ρ S' => ∃ r' : List Nat, m = r'.length ∧ ρ = [some (.ref p)] ∧ S' = put S p (scT A.Scanner z r' d) ∧ ZS z r' ∧ blk r' = blk r, ⟨r.length, r, rfl, rfl, by rw [put_id hS], hz, rfl⟩, ?_⟩
    rintro m ρ S' ⟨r', rfl, rfl, rfl, hz', eb⟩
    unfold scT
    walk_at "vn"
    refine ⟨p, z, r', d, rfl, put_same, hz', ?_⟩
    walk_at "vn"
    by_cases hh : r'.head? = some 32
    · rw [if_pos ((hd_eq (s := " ") (by decide +kernel)).mpr hh)]
      obtain ⟨t, rfl⟩ := head_cons hh
      refine ⟨by decide, _, ?_, t, rfl, by rw [at_tail hz'.le], hz'.up (List.suffix_cons _ _), by rw [← eb, blk, if_pos rfl]⟩
      simp
    · rw [if_neg (fun e => hh ((hd_eq (s := " ") (by decide +kernel)).mp e))]
      have := hq.go
      rw [← eb, blk_no hh] at this
      exact this

/-! ### TooDeep.__init__ -/
abbrev N_TooDeep___init__ : List Str := ["self", "position"]
theorem sc_TooDeep___init__ : FnScope N_TooDeep___init__ ["self", "position"] (defScope s_TooDeep___init__) := ⟨rfl, rfl, rfl, by decide +kernel, rfl, by decide +kernel, by decide +kernel⟩
theorem ok_TooDeep___init__ (T : Top K mg A) {k : Nat} : ExcT P w K mg base (k + 1) "TooDeep" A.TooDeep ["position"] :=
  DefM.excT T.m_TooDeep___init__ T.ox_TooDeep T.c_TooDeep.mg (List.forall_mem_cons.2 ⟨T.nf_TooDeep_position, fun _ h => nomatch h⟩) sc_TooDeep___init__ (fun _ _ _ _ _ _ us hl => match us, hl with | [_, _], _ => rfl) rfl (by decide) (by decide) (by decide) (fun _ _ _ _ _ h => start_at h) (fun f cdv A outer s H E => (pss_one (ps_ost (pv 0) (pv 1))))

/-! ### Scanner.read_number -/
abbrev N_Scanner_read_number : List Str := ["self", "start", "first"]
theorem sc_Scanner_read_number : FnScope N_Scanner_read_number ["self"] (defScope s_Scanner_read_number) := ⟨rfl, rfl, rfl, by decide +kernel, rfl, by decide +kernel, by decide +kernel⟩
def sp_rnum (C N D : Addr) : TSp := fun xs S Q X => ∃ (p : Addr) (z : Str) (r : List Nat) (d : Nat), xs = [.ref p] ∧ S p = some (scT C z r d) ∧ ZS z r ∧
  (∀ q, pNm r = .ok q → Q (rT q.1) (put S p (scT C z q.2 d))) ∧ ∀ e c', pNm r = .error e → X (.ref (errC N D e)) ["position"] [posT z e] (put S p c')
theorem ok_Scanner_read_number (T : Top K mg A) {k : Nat} (M_Scanner_here : MthT P w K mg base k A.Scanner "here" (sp_here A.Scanner)) (X_NotText : ExcT P w K mg base k "NotText" A.NotText ["position"])  : MthT P w K mg base (k + 1 + 1) A.Scanner "read_number" (sp_rnum A.Scanner A.NotText A.TooDeep) := by
  have nd := sc_Scanner_read_number.nd
  refine DefM.mth T.m_Scanner_read_number T.c_Scanner.ci.cl sc_Scanner_read_number (fun _ _ _ _ _ _ us hl => match us, hl with | [_], _ => rfl) (fun xs S Q X h => ?_) ?_ ⟨fun f cdv AA outer s H E hr tk po => have hu := hu_of hr; (ss_cons (s_set (i := 1) nd rfl (Or.inl rfl) (e_fldK (K := K) rfl (e_var 0) rfl))
      (ss_cut (s_if (t_cmp (eq_op hr) o_eq (e_meth0 (ms := fun C t => C = A.Scanner ∧ t = (sp_here A.Scanner)) (fun C t h => by obtain ⟨rfl, rfl⟩ := h; exact M_Scanner_here) (hr.mono (by omega)) tk (e_var 0)) e_str (nomark _)) (ss_cons (s_fldaugK (K := K) (g := fun i j => i + j) rfl (e_var 0) e_int (fun ho he => ps_fldaug ho he in_add))
      (ss_one (s_if (t_cmp (eq_op hr) o_eq (e_meth0 (ms := fun C t => C = A.Scanner ∧ t = (sp_here A.Scanner)) (fun C t h => by obtain ⟨rfl, rfl⟩ := h; exact M_Scanner_here) (hr.mono (by omega)) tk (e_var 0)) e_str (nomark _)) (ss_one (s_raise X_NotText rfl (hr.mono (by omega)) (by rfl) tk (a_cons (e_fldK (K := K) rfl (e_var 0) rfl) a_nil))) ss_nil))) ss_nil)
      (ss_cons (s_set (i := 2) nd rfl (Or.inl rfl) (e_fldK (K := K) rfl (e_var 0) rfl))
      (ss_cons (s_if (t_not (t_val (e_mt0 m_isdigit (e_meth0 (ms := fun C t => C = A.Scanner ∧ t = (sp_here A.Scanner)) (fun C t h => by obtain ⟨rfl, rfl⟩ := h; exact M_Scanner_here) (hr.mono (by omega)) tk (e_var 0)) (fun ho => pe_bm0 PySem.F.plainAttrs_str PySem.F.slot_str_isdigit PySem.F.type_str_isdigit mt_isdigit ho)))) (ss_one (s_raise X_NotText rfl (hr.mono (by omega)) (by rfl) tk (a_cons (e_fldK (K := K) rfl (e_var 0) rfl) a_nil))) ss_nil)
      (ss_cons (s_fldaugK (K := K) (g := fun i j => i + j) rfl (e_var 0) e_int (fun ho he => ps_fldaug ho he in_add))
      (ss_cut (s_if (t_cmp (ne_op hr) o_eq (e_ix (ix_op hr) o_ix (e_fldK (K := K) rfl (e_var 0) rfl) (e_var 2) (fun _ _ => rfl)) e_str (nomark _)) (ss_one (s_while po (TPW.pt (w_and (t_val (e_mt0 m_isdigit (e_meth0 (ms := fun C t => C = A.Scanner ∧ t = (sp_here A.Scanner)) (fun C t h => by obtain ⟨rfl, rfl⟩ := h; exact M_Scanner_here) (hr.mono (by omega)) tk (e_var 0)) (fun ho => pe_bm0 PySem.F.plainAttrs_str PySem.F.slot_str_isdigit PySem.F.type_str_isdigit mt_isdigit ho))) (w_and1 (t_cmp op_lt o_lt (e_op op_sub o_sub (e_fldK (K := K) rfl (e_var 0) rfl) (e_var 2)) (e_g_MOST_DIGITS T) (nomark _))))) (ss_one (s_fldaugK (K := K) (g := fun i j => i + j) rfl (e_var 0) e_int (fun ho he => ps_fldaug ho he in_add))))) ss_nil)
      (ss_one (s_ret (e_callTy KB.int_any c_int (by rfl) T.b.b_int boot_int (a_cons (e_slice (e_fldK (K := K) rfl (e_var 0) rfl) (o_some (e_var 1)) (o_some (e_fldK (K := K) rfl (e_var 0) rfl))) a_nil))))))))))⟩ ?_
  · obtain ⟨p, z, r, d, rfl, hS, hz, h1, h2⟩ := h
    rfl
  · walk_at "mono"
  · intro xs S Q X cQ cX h
    obtain ⟨p, z, r, d, rfl, hS, hz, h1, h2⟩ := h
    have hT := T.facts
    simp only [KQ.startT, List.map_cons, List.map_nil, List.length_cons, List.length_nil, Nat.reduceAdd, Nat.reduceSub, List.replicate_succ, List.replicate_zero, List.cons_append, List.nil_append]
    replace h1 := Hide.mk h1
    replace h2 := Hide.mk h2
    unfold scT at hS
    walk_at "vn"
    intro P hP
    have key : ∀ (r1 : List Nat) (neg : Bool), r1 <:+ r → r = (if neg = true then 45 :: r1 else r1) → (neg = true → r1.head? ≠ some 48) → pNm r = pNd neg r1 → P [some (.ref p), some (.int ((z.length - r.length : Nat) : Int)), none] (put S p (scT A.Scanner z r1 d)) := fun r1 neg s1 er n48 e1 => hP.go _ _ (by
      clear hP
      have hz1 := hz.up s1
      replace er := Hide.mk er
      replace n48 := Hide.mk n48
      replace e1 := Hide.mk e1
      unfold scT
      walk_at "vn"
      refine ⟨p, z, r1, d, rfl, put_same, hz1, ?_⟩
      walk_at "vn"
      rw [hz1.dig]
      cases r1 with
      | nil =>
        have := h2.go (.nott []) (scT A.Scanner z [] d) (by rw [e1.go]; rfl)
        unfold scT at this
        exact (if_pos rfl).mpr this
      | cons c t =>
        show if isDg c = false then _ else _
        by_cases hc : isDg c = false
        · have := h2.go (.nott (c :: t)) (scT A.Scanner z (c :: t) d) (by rw [e1.go, pNd, if_pos hc])
          unfold scT at this
          rw [if_pos hc]
          exact this
        have hc' : isDg c = true := by simpa using hc
        rw [if_neg hc]
        refine ⟨by decide, ?_⟩
        intro P2 hP2
        have zt : ZS z t := hz1.up (List.suffix_cons _ _)
        have fin : ∀ (a r' : List Nat), t = a ++ r' → (∀ x ∈ a, isDg x = true) → a.length ≤ 29 → (c = 48 → a = []) → (c ≠ 48 → pDg 29 t = (a, r')) → P2 [some (.ref p), some (.int ((z.length - r.length : Nat) : Int)), some (.int ((z.length - (c :: t).length : Nat) : Int))] (put S p (scT A.Scanner z r' d)) := fun a r' et da la h48 hpd => hP2.go _ _ (by
          clear hP2
          have sr : r' <:+ r := (by rw [et]; exact List.suffix_append _ _ : r' <:+ t).trans ((List.suffix_cons c t).trans s1)
          have ct := cut_mid hz sr
          have ctx : TL.tl (cutS z (some ((z.length - r.length : Nat) : Int)) (some ((z.length - r'.length : Nat) : Int))) = if neg = true then 45 :: c :: a else c :: a := by
            rw [ct]
            have er := er.go
            cases neg with
            | true =>
              simp only [if_true] at er ⊢
              rw [er, et, show (45 :: c :: (a ++ r')) = (45 :: c :: a) ++ r' from rfl, List.length_append, Nat.add_sub_cancel, List.take_left']
              rfl
            | false =>
              simp only [Bool.false_eq_true, if_false] at er ⊢
              rw [er, et, show (c :: (a ++ r')) = (c :: a) ++ r' from rfl, List.length_append, Nat.add_sub_cancel, List.take_left']
              rfl
          obtain ⟨it, il⟩ := num_text (neg := neg) (l := c :: a) (List.forall_mem_cons.2 ⟨hc', da⟩) (by simp) (by simp; omega) ctx
          have res : Q (.int (if neg = true then -((NumText.digitsVal (c :: a) : Nat) : Int) else ((NumText.digitsVal (c :: a) : Nat) : Int))) (put S p (scT A.Scanner z r' d)) := by
            by_cases c48 : c = 48
            · have ea := h48 c48
              subst ea
              have nf : neg = false := by
                cases neg with
                | false => rfl
                | true => exact absurd (by rw [c48]; rfl) (n48.go rfl)
              subst nf
              have := h1.go (.int 0, t) (by rw [e1.go, pNd, if_neg hc, if_pos c48])
              rw [c48]
              simp only [List.nil_append] at et
              subst et
              exact this
            · have e := hpd c48
              have := h1.go (.int (if neg = true then -((NumText.digitsVal (c :: a) : Nat) : Int) else ((NumText.digitsVal (c :: a) : Nat) : Int)), r') (by rw [e1.go, pNd, if_neg hc, if_neg c48, e])
              exact this
          replace res := Hide.mk res
          have ll := hz.len
          clear h1 h2 ct ctx er e1 n48 hpd
          unfold scT
          walk_at "vn"
          have res := res.go
          unfold scT at res
          exact ⟨szM ll, res⟩)
        have e48 : ({ cps := #[c] } : Str) = Str.ofString "0" ↔ c = 48 := Iff.trans (hd_eq (r := [c]) (s := "0") (k := 48) (by decide +kernel)) (by simp)
        refine ⟨szM hz.len, c, hz1.at_, ?_⟩
        rw [at_tail hz1.le]
        by_cases c48 : c = 48
        · rw [if_neg (fun n => n (e48.mpr c48))]
          have := fin [] t rfl (fun _ h => nomatch h) (Nat.zero_le _) (fun _ => rfl) (fun h => absurd c48 h)
          unfold scT at this
          exact this
        rw [if_pos (fun n => c48 (e48.mp n))]
        have fin' : ∀ (a r' : List Nat), t = a ++ r' → (∀ x ∈ a, isDg x = true) → a.length ≤ 29 → pDg 29 t = (a, r') → P2 [some (.ref p), some (.int ((z.length - r.length : Nat) : Int)), some (.int ((z.length - (c :: t).length : Nat) : Int))] (put S p (scT A.Scanner z r' d)) := fun a r' h1 h2 h3 h4 => fin a r' h1 h2 h3 (fun h => absurd h c48) (fun _ => h4)
        clear fin h1 h2 hP2 e1 n48
        replace fin' := Hide.mk fin'
        refine ⟨fun m ρ S' => ∃ a r' : List Nat, m = r'.length ∧ ρ = [some (.ref p), some (.int ((z.length - r.length : Nat) : Int)), some (.int ((z.length - (c :: t).length : Nat) : Int))] ∧ S' = put S p (scT A.Scanner z r' d) ∧ t = a ++ r' ∧ (∀ x ∈ a, isDg x = true) ∧ a.length ≤ 29 ∧ pDg 29 t = (a ++ (pDg (29 - a.length) r').1, (pDg (29 - a.length) r').2), ⟨t.length, [], t, rfl, rfl, by unfold scT; rfl, rfl, (fun _ h => nomatch h), Nat.zero_le _, rfl⟩, ?_⟩
        rintro m ρ S' ⟨a, r', rfl, rfl, rfl, et, da, la, hp⟩
        have zr : ZS z r' := zt.up (by rw [et]; exact List.suffix_append _ _)
        replace da := Hide.mk da
        have hp' := Hide.mk hp
        have et' := Hide.mk et
        clear hp et
        unfold scT
        walk_at "vn"
        refine ⟨p, z, r', d, rfl, put_same, zr, ?_⟩
        walk_at "vn"
        have exit : pDg (29 - a.length) r' = ([], r') → P2 [some (.ref p), some (.int ((z.length - r.length : Nat) : Int)), some (.int ((z.length - (c :: t).length : Nat) : Int))] (put S p (.ins A.Scanner ["text", "at", "depth"] [.str z, .int ((z.length - r'.length : Nat) : Int), .int d])) := fun hn => by
          have := fin'.go a r' et'.go da.go la (by rw [hp'.go, hn]; simp)
          unfold scT at this
          exact this
        rw [zr.dig]
        by_cases hx : (r'.head?.map isDg).getD false = true
        · rw [if_pos hx]
          by_cases h29 : a.length < 29
          · cases r' with
            | nil => cases hx
            | cons x r2 =>
              have hx' : isDg x = true := hx
              have lt : t.length = a.length + (r2.length + 1) := by have := congrArg List.length et'.go; simpa using this
              have l1 := hz1.le
              simp only [List.length_cons] at l1
              rw [if_pos (by simp only [List.length_cons]; omega)]
              refine ⟨by decide, _, ?_, a ++ [x], r2, rfl, by rw [at_tail zr.le], by rw [et'.go]; simp, ?_, by simp; omega, ?_⟩
              · simp
              · intro y hy
                rcases List.mem_append.mp hy with hy | hy
                · exact da.go y hy
                · rw [List.mem_singleton.mp hy]; exact hx'
              · rw [hp'.go, show 29 - a.length = (29 - (a ++ [x]).length) + 1 by simp; omega, pDg, if_pos hx']
                simp
          · have lt : t.length = a.length + r'.length := by have := congrArg List.length et'.go; simpa using this
            have l1 := hz1.le
            simp only [List.length_cons] at l1
            rw [if_neg (by simp only [List.length_cons]; omega)]
            exact exit (pDg_none (.inl (by omega)))
        · rw [if_neg hx]
          exact exit (pDg_none (.inr (by simpa using hx))))
    walk_at "vn"
    refine ⟨p, z, r, d, rfl, hS, hz, ?_⟩
    walk_at "vn"
    by_cases hm : r.head? = some 45
    · rw [if_pos ((hd_eq (s := "-") (by decide +kernel)).mpr hm)]
      obtain ⟨t, rfl⟩ := head_cons hm
      have pn : pNm (45 :: t) = if t.head? = some 48 then .error (.nott t) else pNd true t := by unfold pNm; rw [if_pos (by simp)]; rfl
      rw [at_tail hz.le]
      refine ⟨by decide, p, z, t, d, rfl, by rw [put_same]; rfl, hz.up (List.suffix_cons _ _), ?_⟩
      walk_at "vn"
      by_cases h0 : t.head? = some 48
      · rw [if_pos ((hd_eq (s := "0") (by decide +kernel)).mpr h0)]
        have := h2.go (.nott t) (scT A.Scanner z t d) (by rw [pn, if_pos h0])
        unfold scT at this
        exact this
      · rw [if_neg (fun e => h0 ((hd_eq (s := "0") (by decide +kernel)).mp e))]
        have := key t true (List.suffix_cons _ _) rfl (fun _ => h0) (by rw [pn, if_neg h0])
        unfold scT at this
        exact this
    · rw [if_neg (fun e => hm ((hd_eq (s := "-") (by decide +kernel)).mp e))]
      have := key r false (List.suffix_refl _) rfl (fun h => nomatch h) (by unfold pNm; rw [if_neg hm])
      unfold scT at this
      rw [put_id hS] at this
      exact this

/-! ### Scanner.read_word -/
abbrev N_Scanner_read_word : List Str := ["self", "letters", "value", "letter"]
theorem sc_Scanner_read_word : FnScope N_Scanner_read_word ["self"] (defScope s_Scanner_read_word) := ⟨rfl, rfl, rfl, by decide +kernel, rfl, by decide +kernel, by decide +kernel⟩
def sp_rword (C N D : Addr) : TSp := fun xs S Q X => ∃ (p : Addr) (z : Str) (r : List Nat) (d : Nat), xs = [.ref p] ∧ S p = some (scT C z r d) ∧ ZS z r ∧ (r.head? = some 110 ∨ r.head? = some 116 ∨ r.head? = some 102) ∧
  (∀ q, pWd r = .ok q → Q (rT q.1) (put S p (scT C z q.2 d))) ∧ ∀ e c', pWd r = .error e → X (.ref (errC N D e)) ["position"] [posT z e] (put S p c')
theorem ok_Scanner_read_word (T : Top K mg A) {k : Nat} (M_Scanner_expect : MthT P w K mg base k A.Scanner "expect" (sp_expect A.Scanner A.NotText A.TooDeep)) (M_Scanner_here : MthT P w K mg base k A.Scanner "here" (sp_here A.Scanner))  : MthT P w K mg base (k + 1) A.Scanner "read_word" (sp_rword A.Scanner A.NotText A.TooDeep) := by
  have nd := sc_Scanner_read_word.nd
  refine DefM.mth T.m_Scanner_read_word T.c_Scanner.ci.cl sc_Scanner_read_word (fun _ _ _ _ _ _ us hl => match us, hl with | [_], _ => rfl) (fun xs S Q X h => ?_) ?_ ⟨fun f cdv AA outer s H E hr tk po => have hu := hu_of hr; (ss_cons (s_asg (.tp [(.nm 1), (.nm 2)]) (e_kix KT.WORDS (by rfl) (e_meth0 (ms := fun C t => C = A.Scanner ∧ t = (sp_here A.Scanner)) (fun C t h => by obtain ⟨rfl, rfl⟩ := h; exact M_Scanner_here) (hr.mono (by omega)) tk (e_var 0)) (fun _ _ => rfl)) (pg_tup rfl (pgs_cons (pg_name (i := 1) nd rfl (Or.inl rfl)) (pgs_cons (pg_name (i := 2) nd rfl (Or.inl rfl)) pgs_nil))))
      (ss_cons (s_for (.nm 3) po rfl (i_str (e_var 1)) (pg_name (i := 3) nd rfl (Or.inl rfl)) (ss_one (s_expr (e_meth (ms := fun C t => C = A.Scanner ∧ t = (sp_expect A.Scanner A.NotText A.TooDeep)) (fun C t h => by obtain ⟨rfl, rfl⟩ := h; exact M_Scanner_expect) (hr.mono (by omega)) tk (e_var 0) (a_cons (e_var 3) a_nil)))))
      (ss_one (s_ret (e_var 2)))))⟩ ?_
  · obtain ⟨p, z, r, d, rfl, hS, hz, hh, h1, h2⟩ := h
    rfl
  · walk_at "mono"
  · intro xs S Q X cQ cX h
    obtain ⟨p, z, r, d, rfl, hS, hz, hh, h1, h2⟩ := h
    have hT := T.facts
    simp only [KQ.startT, List.map_cons, List.map_nil, List.length_cons, List.length_nil, Nat.reduceAdd, Nat.reduceSub, List.replicate_succ, List.replicate_zero, List.cons_append, List.nil_append]
    replace h1 := Hide.mk h1
    replace h2 := Hide.mk h2
    unfold scT at hS
    walk_at "vn"
    refine ⟨p, z, r, d, rfl, hS, hz, ?_⟩
    walk_at "vn"
    have key : ∀ (cs : List Nat) (v : RawV) (x1 : Tr), pWd r = wrapR v (pEs cs r) → uLoop (fun x => True) (Pat.nm 3) (uDrop (uMeth (Str.ofString "expect") (fun C t => C = A.Scanner ∧ t = sp_expect A.Scanner A.NotText A.TooDeep) (uVar 0) (uCons (uVar 3) uNil)))
        { nx := uRet (uVar 2) (endU Q) (endX X), rt := (endU Q).rt, bk := (endU Q).bk, ct := (endU Q).ct } (endX X) (List.map sgnT cs) [some (Tr.ref p), some x1, some (rT v), none] S := fun cs v x1 e0 => by
      refine loop_inv _ (fun i ρ S2 => ∃ (x3 : Option Tr) (r' : List Nat), ρ = [some (.ref p), some x1, some (rT v), x3] ∧ S2 = put S p (scT A.Scanner z r' d) ∧ ZS z r' ∧ pEs (cs.drop i) r' = pEs cs r) ?_ ?_ ⟨_, r, rfl, by unfold scT; rw [put_id hS], hz, rfl⟩
      · rintro i x ρ S2 N hx ⟨x3, r', rfl, rfl, hz', er⟩ hN
        rw [List.getElem?_map] at hx
        obtain ⟨c, hc, rfl⟩ := Option.map_eq_some_iff.mp hx
        obtain ⟨hi, hci⟩ := List.getElem?_eq_some_iff.mp hc
        have ed : cs.drop i = c :: cs.drop (i + 1) := by rw [← hci]; exact List.drop_eq_getElem_cons hi
        rw [ed, pEs] at er
        clear hx hc hci
        replace hN := Hide.mk hN
        have er' := Hide.mk er
        clear er
        unfold scT
        walk_at "vn"
        refine ⟨p, z, r', d, c, rfl, put_same, hz', fun r2 e2 => ?_, fun e c' e2 => ?_⟩
        · rw [put_put]
          have er := er'.go
          rw [e2] at er
          exact hN.go _ _ ⟨_, r2, rfl, rfl, hz'.up ((pEx_suf c r').1 _ e2), er⟩
        · rw [put_put]
          have er := er'.go
          rw [e2] at er
          exact h2.go e c' (by rw [e0, ← er]; rfl)
      · rintro ρ S2 ⟨x3, r', rfl, rfl, hz', er⟩
        rw [List.length_map, List.drop_length, pEs] at er
        have := h1.go (v, r') (by rw [e0, ← er]; rfl)
        replace this := Hide.mk this
        clear h1 h2
        walk_at "vn"
        exact this.go
    rcases hh with hh | hh | hh
    · have e0 : pWd r = wrapR .non (pEs [110, 117, 108, 108] r) := by unfold pWd; rw [if_pos hh]
      rw [(hd_eq (s := "n") (by decide +kernel)).mpr hh]
      refine ⟨.tup [.str "null", rT .non], by simp [List.lookup, ofS_inj, rT], _, rfl, _, rfl, _, rfl, ?_⟩
      rw [show (Str.ofString "null").cps.toList = [110, 117, 108, 108] by decide +kernel]
      exact key _ _ _ e0
    · have e0 : pWd r = wrapR (.bl true) (pEs [116, 114, 117, 101] r) := by unfold pWd; rw [if_neg (by rw [hh]; decide), if_pos hh]
      rw [(hd_eq (s := "t") (by decide +kernel)).mpr hh]
      refine ⟨.tup [.str "true", rT (.bl true)], by simp [List.lookup, rT, show (Str.ofString "t" == Str.ofString "n") = false by decide +kernel], _, rfl, _, rfl, _, rfl, ?_⟩
      rw [show (Str.ofString "true").cps.toList = [116, 114, 117, 101] by decide +kernel]
      exact key _ _ _ e0
    · have e0 : pWd r = wrapR (.bl false) (pEs [102, 97, 108, 115, 101] r) := by unfold pWd; rw [if_neg (by rw [hh]; decide), if_neg (by rw [hh]; decide)]
      rw [(hd_eq (s := "f") (by decide +kernel)).mpr hh]
      refine ⟨.tup [.str "false", rT (.bl false)], by simp [List.lookup, rT, show (Str.ofString "f" == Str.ofString "n") = false by decide +kernel, show (Str.ofString "f" == Str.ofString "t") = false by decide +kernel], _, rfl, _, rfl, _, rfl, ?_⟩
      rw [show (Str.ofString "false").cps.toList = [102, 97, 108, 115, 101] by decide +kernel]
      exact key _ _ _ e0

/-! ### Scanner.read_member -/
abbrev N_Scanner_read_member : List Str := ["self", "closing", "name"]
theorem sc_Scanner_read_member : FnScope N_Scanner_read_member ["self", "closing"] (defScope s_Scanner_read_member) := ⟨rfl, rfl, rfl, by decide +kernel, rfl, by decide +kernel, by decide +kernel⟩
def sp_rval (C N D : Addr) (n : Nat) : TSp := fun xs S Q X => ∃ (p : Addr) (z : Str) (r : List Nat) (d b : Nat), xs = [.ref p] ∧ S p = some (scT C z r d) ∧ ZS z r ∧ b < n ∧ d + b = 60 ∧
  (∀ q, pVal b r = .ok q → Q (rT q.1) (put S p (scT C z q.2 d))) ∧ ∀ e c', pVal b r = .error e → X (.ref (errC N D e)) ["position"] [posT z e] (put S p c')
def sp_rmem (C N D : Addr) (n : Nat) : TSp := fun xs S Q X => ∃ (p : Addr) (z : Str) (r : List Nat) (d b : Nat) (tab : Bool), xs = [.ref p, .str (mkS [clC tab])] ∧ S p = some (scT C z r d) ∧ ZS z r ∧ b < n ∧ d + b = 60 ∧
  (∀ q, pItem tab (pVal b) r = .ok q → Q q.1 (put S p (scT C z q.2 d))) ∧ ∀ e c', pItem tab (pVal b) r = .error e → X (.ref (errC N D e)) ["position"] [posT z e] (put S p c')
theorem ok_Scanner_read_member (T : Top K mg A) {k n : Nat} (M_Scanner_expect : MthT P w K mg base k A.Scanner "expect" (sp_expect A.Scanner A.NotText A.TooDeep)) (M_Scanner_read_string : MthT P w K mg base k A.Scanner "read_string" (sp_rstr A.Scanner A.NotText A.TooDeep)) (M_Scanner_skip_blanks : MthT P w K mg base k A.Scanner "skip_blanks" (sp_skip A.Scanner)) (M_Scanner_read_value : MthT P w K mg base (k) A.Scanner "read_value" (sp_rval A.Scanner A.NotText A.TooDeep n)) : MthT P w K mg base (k + 1) A.Scanner "read_member" (sp_rmem A.Scanner A.NotText A.TooDeep n) := by
  have nd := sc_Scanner_read_member.nd
  refine DefM.mth T.m_Scanner_read_member T.c_Scanner.ci.cl sc_Scanner_read_member (fun _ _ _ _ _ _ us hl => match us, hl with | [_, _], _ => rfl) (fun xs S Q X h => ?_) ?_ ⟨fun f cdv AA outer s H E hr tk po => have hu := hu_of hr; (ss_cons (s_if (t_cmp (eq_op hr) o_eq (e_var 1) e_str (nomark _)) (ss_one (s_ret (e_meth0 (ms := fun C t => C = A.Scanner ∧ t = (sp_rval A.Scanner A.NotText A.TooDeep n)) (fun C t h => by obtain ⟨rfl, rfl⟩ := h; exact M_Scanner_read_value) (hr.mono (by omega)) tk (e_var 0)))) ss_nil)
      (ss_cons (s_expr (e_meth0 (ms := fun C t => C = A.Scanner ∧ t = (sp_skip A.Scanner)) (fun C t h => by obtain ⟨rfl, rfl⟩ := h; exact M_Scanner_skip_blanks) (hr.mono (by omega)) tk (e_var 0)))
      (ss_cons (s_set (i := 2) nd rfl (Or.inl rfl) (e_meth0 (ms := fun C t => C = A.Scanner ∧ t = (sp_rstr A.Scanner A.NotText A.TooDeep)) (fun C t h => by obtain ⟨rfl, rfl⟩ := h; exact M_Scanner_read_string) (hr.mono (by omega)) tk (e_var 0)))
      (ss_cons (s_expr (e_meth0 (ms := fun C t => C = A.Scanner ∧ t = (sp_skip A.Scanner)) (fun C t h => by obtain ⟨rfl, rfl⟩ := h; exact M_Scanner_skip_blanks) (hr.mono (by omega)) tk (e_var 0)))
      (ss_cons (s_expr (e_meth (ms := fun C t => C = A.Scanner ∧ t = (sp_expect A.Scanner A.NotText A.TooDeep)) (fun C t h => by obtain ⟨rfl, rfl⟩ := h; exact M_Scanner_expect) (hr.mono (by omega)) tk (e_var 0) (a_cons e_str a_nil)))
      (ss_one (s_ret (e_tup (a_cons (e_var 2) (a_cons (e_meth0 (ms := fun C t => C = A.Scanner ∧ t = (sp_rval A.Scanner A.NotText A.TooDeep n)) (fun C t h => by obtain ⟨rfl, rfl⟩ := h; exact M_Scanner_read_value) (hr.mono (by omega)) tk (e_var 0)) a_nil))))))))))⟩ ?_
  · obtain ⟨p, z, r, d, b, tab, rfl, hS, hz, hb, hd, h1, h2⟩ := h
    rfl
  · walk_at "mono"
  · intro xs S Q X cQ cX h
    obtain ⟨p, z, r, d, b, tab, rfl, hS, hz, hb, hd, h1, h2⟩ := h
    have hT := T.facts
    simp only [KQ.startT, List.map_cons, List.map_nil, List.length_cons, List.length_nil, Nat.reduceAdd, Nat.reduceSub, List.replicate_succ, List.replicate_zero, List.cons_append, List.nil_append]
    replace h1 := Hide.mk h1
    replace h2 := Hide.mk h2
    unfold scT at hS
    walk_at "vn"
    cases tab with
    | false =>
      rw [if_pos (show mkS [clC false] = Str.ofString "]" by decide +kernel)]
      refine ⟨p, z, r, d, b, rfl, hS, hz, hb, hd, fun q e => ?_, fun e c' he => ?_⟩
      · exact h1.go (rT q.1, q.2) (by unfold pItem; rw [if_neg (by decide), e]; rfl)
      · exact h2.go e c' (by unfold pItem; rw [if_neg (by decide), he]; rfl)
    | true =>
      rw [if_neg (show ¬ mkS [clC true] = Str.ofString "]" by decide +kernel)]
      have pit : pItem true (pVal b) r = mapR (fun q => Tr.tup [.str q.1, rT q.2]) (pPair (pVal b) r) := by unfold pItem; rw [if_pos rfl]
      rw [pit] at h1 h2
      clear pit
      refine ⟨p, z, r, d, rfl, hS, hz, ?_⟩
      unfold scT
      walk_at "vn"
      refine ⟨p, z, blk r, d, rfl, put_same, hz.up (blk_suf r), fun q e1 => ?_, fun e c' e1 => ?_⟩
      · have s1 := (pStr_suf (blk r)).1 _ e1
        have hz1 := (hz.up (blk_suf r)).up s1
        rw [put_put]
        unfold scT
        walk_at "vn"
        refine ⟨p, z, q.2, d, rfl, put_same, hz1, ?_⟩
        rw [put_put]
        unfold scT
        walk_at "vn"
        refine ⟨p, z, blk q.2, d, 58, by rw [show Str.ofString ":" = mkS [58] by decide +kernel], put_same, hz1.up (blk_suf _), fun r2 e2 => ?_, fun e c' e2 => ?_⟩
        · have hz2 := (hz1.up (blk_suf q.2)).up ((pEx_suf 58 (blk q.2)).1 _ e2)
          rw [put_put]
          unfold scT
          walk_at "vn"
          refine ⟨p, z, r2, d, b, rfl, put_same, hz2, hb, hd, fun q2 e3 => ?_, fun e c' e3 => ?_⟩
          · rw [put_put]
            exact h1.go (Tr.tup [.str (mkS q.1), rT q2.1], q2.2) (by unfold pPair; rw [e1]; dsimp only; rw [e2]; dsimp only; rw [e3]; rfl)
          · rw [put_put]
            exact h2.go e c' (by unfold pPair; rw [e1]; dsimp only; rw [e2]; dsimp only; rw [e3]; rfl)
        · rw [put_put]
          exact h2.go e c' (by unfold pPair; rw [e1]; dsimp only; rw [e2]; rfl)
      · rw [put_put]
        exact h2.go e c' (by unfold pPair; rw [e1]; rfl)

/-! ### Scanner.read_members -/
abbrev N_Scanner_read_members : List Str := ["self", "closing", "found"]
theorem sc_Scanner_read_members : FnScope N_Scanner_read_members ["self", "closing"] (defScope s_Scanner_read_members) := ⟨rfl, rfl, rfl, by decide +kernel, rfl, by decide +kernel, by decide +kernel⟩
def sp_rmems (C N D : Addr) (n : Nat) : TSp := fun xs S Q X => ∃ (p : Addr) (z : Str) (r : List Nat) (d b : Nat) (tab : Bool), xs = [.ref p, .str (mkS [clC tab])] ∧ S p = some (scT C z r d) ∧ ZS z r ∧ r ≠ [] ∧ b < n + 1 ∧ d + b = 60 ∧
  (∀ q, pMems tab b r = .ok q → Q (.lst q.1) (put S p (scT C z q.2 d))) ∧ ∀ e c', pMems tab b r = .error e → X (.ref (errC N D e)) ["position"] [posT z e] (put S p c')
theorem ok_Scanner_read_members (T : Top K mg A) {k n : Nat} (M_Scanner_expect : MthT P w K mg base k A.Scanner "expect" (sp_expect A.Scanner A.NotText A.TooDeep)) (M_Scanner_here : MthT P w K mg base k A.Scanner "here" (sp_here A.Scanner)) (M_Scanner_skip_blanks : MthT P w K mg base k A.Scanner "skip_blanks" (sp_skip A.Scanner)) (X_TooDeep : ExcT P w K mg base k "TooDeep" A.TooDeep ["position"]) (M_Scanner_read_member : MthT P w K mg base (k + 1) A.Scanner "read_member" (sp_rmem A.Scanner A.NotText A.TooDeep n)) : MthT P w K mg base (k + 1 + 1) A.Scanner "read_members" (sp_rmems A.Scanner A.NotText A.TooDeep n) := by
  have nd := sc_Scanner_read_members.nd
  refine DefM.mth T.m_Scanner_read_members T.c_Scanner.ci.cl sc_Scanner_read_members (fun _ _ _ _ _ _ us hl => match us, hl with | [_, _], _ => rfl) (fun xs S Q X h => ?_) ?_ ⟨fun f cdv AA outer s H E hr tk po => have hu := hu_of hr; (ss_cons (s_if (t_cmp (eq_op hr) o_eq (e_fldK (K := K) rfl (e_var 0) rfl) (e_g_DEEPEST T) (nomark _)) (ss_one (s_raise X_TooDeep rfl (hr.mono (by omega)) (by rfl) tk (a_cons (e_fldK (K := K) rfl (e_var 0) rfl) a_nil))) ss_nil)
      (ss_cons (s_fldaugK (K := K) (g := fun i j => i + j) rfl (e_var 0) e_int (fun ho he => ps_fldaug ho he in_add))
      (ss_cons (s_fldaugK (K := K) (g := fun i j => i + j) rfl (e_var 0) e_int (fun ho he => ps_fldaug ho he in_add))
      (ss_cons (s_set (i := 2) nd rfl (Or.inl rfl) (e_lstC a_nil))
      (ss_cons (s_expr (e_meth0 (ms := fun C t => C = A.Scanner ∧ t = (sp_skip A.Scanner)) (fun C t h => by obtain ⟨rfl, rfl⟩ := h; exact M_Scanner_skip_blanks) (hr.mono (by omega)) tk (e_var 0)))
      (ss_cut (s_if (t_cmp (ne_op hr) o_eq (e_meth0 (ms := fun C t => C = A.Scanner ∧ t = (sp_here A.Scanner)) (fun C t h => by obtain ⟨rfl, rfl⟩ := h; exact M_Scanner_here) (hr.mono (by omega)) tk (e_var 0)) (e_var 1) (nomark _)) (ss_cons (s_expr (e_mm m_append (e_var 2) (a_cons (e_meth (ms := fun C t => C = A.Scanner ∧ t = (sp_rmem A.Scanner A.NotText A.TooDeep n)) (fun C t h => by obtain ⟨rfl, rfl⟩ := h; exact M_Scanner_read_member) (hr.mono (by omega)) tk (e_var 0) (a_cons (e_var 1) a_nil)) a_nil) (fun ho ha => pe_bm PySem.F.plainAttrs_list PySem.F.slot_list_append PySem.F.type_list_append mt_append ho ha)))
      (ss_cons (s_expr (e_meth0 (ms := fun C t => C = A.Scanner ∧ t = (sp_skip A.Scanner)) (fun C t h => by obtain ⟨rfl, rfl⟩ := h; exact M_Scanner_skip_blanks) (hr.mono (by omega)) tk (e_var 0)))
      (ss_one (s_while po (t_cmp (eq_op hr) o_eq (e_meth0 (ms := fun C t => C = A.Scanner ∧ t = (sp_here A.Scanner)) (fun C t h => by obtain ⟨rfl, rfl⟩ := h; exact M_Scanner_here) (hr.mono (by omega)) tk (e_var 0)) e_str (nomark _)) (ss_cons (s_fldaugK (K := K) (g := fun i j => i + j) rfl (e_var 0) e_int (fun ho he => ps_fldaug ho he in_add))
      (ss_cons (s_expr (e_mm m_append (e_var 2) (a_cons (e_meth (ms := fun C t => C = A.Scanner ∧ t = (sp_rmem A.Scanner A.NotText A.TooDeep n)) (fun C t h => by obtain ⟨rfl, rfl⟩ := h; exact M_Scanner_read_member) (hr.mono (by omega)) tk (e_var 0) (a_cons (e_var 1) a_nil)) a_nil) (fun ho ha => pe_bm PySem.F.plainAttrs_list PySem.F.slot_list_append PySem.F.type_list_append mt_append ho ha)))
      (ss_one (s_expr (e_meth0 (ms := fun C t => C = A.Scanner ∧ t = (sp_skip A.Scanner)) (fun C t h => by obtain ⟨rfl, rfl⟩ := h; exact M_Scanner_skip_blanks) (hr.mono (by omega)) tk (e_var 0)))))))))) ss_nil)
      (ss_cons (s_expr (e_meth (ms := fun C t => C = A.Scanner ∧ t = (sp_expect A.Scanner A.NotText A.TooDeep)) (fun C t h => by obtain ⟨rfl, rfl⟩ := h; exact M_Scanner_expect) (hr.mono (by omega)) tk (e_var 0) (a_cons (e_var 1) a_nil)))
      (ss_cons (s_fldaugK (K := K) (g := fun i j => i - j) rfl (e_var 0) e_int (fun ho he => ps_fldaug ho he in_sub))
      (ss_frz (i := 2) (ss_one (s_ret (e_var 2))))))))))))⟩ ?_
  · obtain ⟨p, z, r, d, b, tab, rfl, hS, hz, rn, hb, hd, h1, h2⟩ := h
    rfl
  · walk_at "mono"
  · intro xs S Q X cQ cX h
    obtain ⟨p, z, r, d, b, tab, rfl, hS, hz, rn, hb, hd, h1, h2⟩ := h
    have hT := T.facts
    simp only [KQ.startT, List.map_cons, List.map_nil, List.length_cons, List.length_nil, Nat.reduceAdd, Nat.reduceSub, List.replicate_succ, List.replicate_zero, List.cons_append, List.nil_append]
    replace h1 := Hide.mk h1
    replace h2 := Hide.mk h2
    unfold scT at hS
    walk_at "vn"
    cases b with
    | zero =>
      rw [if_pos (by omega)]
      have := h2.go (.deep r) (scT A.Scanner z r d) rfl
      rw [put_id (by unfold scT; exact hS)] at this
      exact this
    | succ b =>
      rw [if_neg (by omega)]
      obtain ⟨c, t, rfl⟩ : ∃ c t, r = c :: t := by cases r with
        | nil => exact absurd rfl rn
        | cons c t => exact ⟨c, t, rfl⟩
      rw [at_tail hz.le, show ((d : Nat) : Int) + 1 = ((d + 1 : Nat) : Int) by omega]
      refine ⟨by decide, by decide, fun p1 hp1 => ?_⟩
      have np : p1 ≠ p := fun e => by subst e; rw [put_same] at hp1; cases hp1
      have pm : pMems tab (b + 1) (c :: t) = pMem (pItem tab (pVal b)) (clC tab) t := rfl
      rw [pm] at h1 h2
      have zt : ZS z t := hz.up (List.suffix_cons _ _)
      have n0 : ∀ c', put S p c' p1 = none := fun c' => by rw [put_ne np] at hp1 ⊢; exact hp1
      have v1 : ∀ c c2, put (put S p c) p1 c2 p = some c := fun c c2 => by rw [put_ne np.symm]; exact put_same
      have v2 : ∀ c c2, put (put S p c) p1 c2 p1 = some c2 := fun c c2 => put_same
      have k2 : ∀ e c' c2, pMem (pItem tab (pVal b)) (clC tab) t = .error e → X (.ref (errC A.NotText A.TooDeep e)) ["position"] [posT z e] (put (put S p c') p1 c2) := fun e c' c2 hq => cX _ _ _ _ _ (sub_new (n0 _)) (h2.go e c' hq)
      clear h2
      replace k2 := Hide.mk k2
      walk_at "vn"
      refine ⟨p, z, t, d + 1, rfl, by unfold scT; exact v1 _ _, zt, ?_⟩
      rw [put3 np]
      unfold scT
      walk_at "vn"
      intro P hP
      have key : ∀ (acc : List Tr) (r' : List Nat), ZS z r' → acc.length ≤ z.length → pMem (pItem tab (pVal b)) (clC tab) t = (match pEx (clC tab) r' with | .error e => .error e | .ok r2 => .ok (acc, r2)) → P [some (.ref p), some (.str (mkS [clC tab])), some (.ref p1)] (put (put S p (scT A.Scanner z r' (d + 1))) p1 (.lst acc)) := fun acc r' zr la ee => hP.go _ _ (by
        clear hP
        replace ee := Hide.mk ee
        unfold scT
        walk_at "vn"
        refine ⟨p, z, r', d + 1, clC tab, rfl, by unfold scT; exact v1 _ _, zr, fun r2 e2 => ?_, fun e c' e2 => ?_⟩
        · rw [put3 np]
          unfold scT
          walk_at "vn"
          rw [put3 np, show ((d + 1 : Nat) : Int) - 1 = (d : Int) by omega]
          exact ⟨by decide, .lst acc, _, Frz.one put_same (sub_new (n0 _)) (n0 _), h1.go (acc, r2) (by rw [ee.go, e2])⟩
        · rw [put3 np]
          exact k2.go e c' _ (by rw [ee.go, e2]))
      refine ⟨p, z, blk t, d + 1, rfl, by unfold scT; exact v1 _ _, zt.up (blk_suf t), ?_⟩
      walk_at "vn"
      have zb : ZS z (blk t) := zt.up (blk_suf t)
      have hcl : mkS (List.take 1 (blk t)) = mkS [clC tab] ↔ (blk t).head? = some (clC tab) := hd_k
      by_cases hc : (blk t).head? = some (clC tab)
      · rw [if_neg (fun e => e (hcl.mpr hc))]
        have := key [] (blk t) zb (Nat.zero_le _) (by
          unfold pMem
          rw [if_pos hc]
          obtain ⟨t2, e⟩ := head_cons hc
          rw [e, pEx_yes]
          rfl)
        unfold scT at this
        exact this
      rw [if_pos (fun e => hc (hcl.mp e))]
      clear hP
      replace key := Hide.mk key
      have pmE : ∀ e, pItem tab (pVal b) (blk t) = .error e → pMem (pItem tab (pVal b)) (clC tab) t = .error e := fun e h => by unfold pMem; rw [if_neg hc, h]
      have pmO : ∀ q, pItem tab (pVal b) (blk t) = .ok q → pMem (pItem tab (pVal b)) (clC tab) t = pMore (pItem tab (pVal b)) (clC tab) (q.2.length + 1) [q.1] (blk q.2) := fun q h => by unfold pMem; rw [if_neg hc, h]
      refine ⟨p, z, blk t, d + 1, b, tab, rfl, by unfold scT; exact v1 _ _, zb, by omega, by omega, fun q e1 => ?_, fun e c' e1 => ?_⟩
      rotate_left
      · rw [put3 np]
        exact k2.go e c' _ (pmE e e1)
      have hf : ∀ r, Suf (pItem tab (pVal b) r) r := pItem_suf (pVal_suf b)
      have zq : ZS z q.2 := zb.up ((hf (blk t)).1 _ e1)
      have pm2 := Hide.mk (pmO q e1)
      clear pmE pmO
      rw [put3 np]
      unfold scT
      walk_at "vn"
      have zl := hz.len
      refine ⟨by decide, p, z, q.2, d + 1, rfl, by unfold scT; exact v1 _ _, zq, ?_⟩
      rw [put3 np]
      unfold scT
      walk_at "vn"
      have zq2 : ZS z (blk q.2) := zq.up (blk_suf q.2)
      have lq := zq.le
      have lb : (blk q.2).length ≤ q.2.length := (blk_suf q.2).length_le
      have lc : q.2.length < z.length := by
        have := (hf (blk t)).1 _ e1
        have := this.length_le
        have := (blk_suf t).length_le
        have := hz.le
        simp only [List.length_cons] at this
        omega
      refine ⟨fun m ρ S' => ∃ (r' : List Nat) (acc : List Tr) (k : Nat), m = r'.length ∧ ρ = [some (.ref p), some (.str (mkS [clC tab])), some (.ref p1)] ∧ S' = put (put S p (scT A.Scanner z r' (d + 1))) p1 (.lst acc) ∧ ZS z r' ∧ acc.length + r'.length ≤ z.length ∧ r'.length < k ∧ pMem (pItem tab (pVal b)) (clC tab) t = pMore (pItem tab (pVal b)) (clC tab) k acc r', ⟨(blk q.2).length, blk q.2, [q.1], q.2.length + 1, rfl, rfl, rfl, zq2, by simp only [List.length_cons, List.length_nil]; omega, by omega, pm2.go⟩, ?_⟩
      rintro m ρ S' ⟨r', acc, k, rfl, rfl, rfl, zr, la, lk, pm3⟩
      replace pm3 := Hide.mk pm3
      clear pm2
      unfold scT
      walk_at "vn"
      refine ⟨p, z, r', d + 1, rfl, by unfold scT; exact v1 _ _, zr, ?_⟩
      walk_at "vn"
      by_cases h44 : r'.head? = some 44
      · rw [if_pos ((hd_eq (s := ",") (by decide +kernel)).mpr h44)]
        obtain ⟨t2, rfl⟩ := head_cons h44
        rw [at_tail zr.le, put3 np]
        have zt2 : ZS z t2 := zr.up (List.suffix_cons _ _)
        simp only [List.length_cons] at la lk
        obtain ⟨k, rfl⟩ : ∃ k', k = k' + 1 := ⟨k - 1, by omega⟩
        refine ⟨by decide, by rw [put_same]; rfl, p, z, t2, d + 1, b, tab, rfl, by unfold scT; exact v1 _ _, zt2, by omega, by omega, fun q2 e2 => ?_, fun e c' e2 => ?_⟩
        rotate_left
        · rw [put3 np]
          exact k2.go e c' _ (by rw [pm3.go, pMore, if_pos (by rfl), List.tail_cons, e2])
        have s2 := (hf t2).1 _ e2
        have zq3 : ZS z q2.2 := zt2.up s2
        rw [put3 np]
        unfold scT
        walk_at "vn"
        refine ⟨by have := szM' zl; omega, p, z, q2.2, d + 1, rfl, by unfold scT; exact v1 _ _, zq3, ?_⟩
        have l2 := s2.length_le
        have l3 : (blk q2.2).length ≤ q2.2.length := (blk_suf q2.2).length_le
        rw [put3 np]
        walk_at "vn"
        refine ⟨_, ?_, blk q2.2, rfl, acc ++ [q2.1], rfl, zq3.up (blk_suf _), ?_, k, ?_, ?_⟩
        · simp only [List.length_cons]; omega
        · simp only [List.length_append, List.length_cons, List.length_nil]; omega
        · omega
        · rw [pm3.go, pMore, if_pos (by rfl), List.tail_cons, e2]
      · rw [if_neg (fun e => h44 ((hd_eq (s := ",") (by decide +kernel)).mp e))]
        obtain ⟨k, rfl⟩ : ∃ k', k = k' + 1 := ⟨k - 1, by omega⟩
        have := key.go acc r' zr (by omega) (by rw [pm3.go, pMore, if_neg h44]; all_goals (cases pEx (clC tab) r' <;> rfl))
        unfold scT at this
        exact this

/-! ### Scanner.read_value -/
abbrev N_Scanner_read_value : List Str := ["self"]
theorem sc_Scanner_read_value : FnScope N_Scanner_read_value ["self"] (defScope s_Scanner_read_value) := ⟨rfl, rfl, rfl, by decide +kernel, rfl, by decide +kernel, by decide +kernel⟩
theorem step_Scanner_read_value (T : Top K mg A) {k n : Nat} (M_Scanner_here : MthT P w K mg base k A.Scanner "here" (sp_here A.Scanner)) (M_Scanner_read_number : MthT P w K mg base k A.Scanner "read_number" (sp_rnum A.Scanner A.NotText A.TooDeep)) (M_Scanner_read_string : MthT P w K mg base k A.Scanner "read_string" (sp_rstr A.Scanner A.NotText A.TooDeep)) (M_Scanner_read_word : MthT P w K mg base k A.Scanner "read_word" (sp_rword A.Scanner A.NotText A.TooDeep)) (M_Scanner_skip_blanks : MthT P w K mg base k A.Scanner "skip_blanks" (sp_skip A.Scanner)) (M_Scanner_read_members : MthT P w K mg base (k) A.Scanner "read_members" (sp_rmems A.Scanner A.NotText A.TooDeep n)) : MthT P w K mg base (k + 1) A.Scanner "read_value" (sp_rval A.Scanner A.NotText A.TooDeep (n + 1)) := by
  have nd := sc_Scanner_read_value.nd
  refine DefM.mth T.m_Scanner_read_value T.c_Scanner.ci.cl sc_Scanner_read_value (fun _ _ _ _ _ _ us hl => match us, hl with | [_], _ => rfl) (fun xs S Q X h => ?_) ?_ ⟨fun f cdv AA outer s H E hr tk po => have hu := hu_of hr; (ss_cons (s_expr (e_meth0 (ms := fun C t => C = A.Scanner ∧ t = (sp_skip A.Scanner)) (fun C t h => by obtain ⟨rfl, rfl⟩ := h; exact M_Scanner_skip_blanks) (hr.mono (by omega)) tk (e_var 0)))
      (ss_cons (s_match (e_meth0 (ms := fun C t => C = A.Scanner ∧ t = (sp_here A.Scanner)) (fun C t h => by obtain ⟨rfl, rfl⟩ := h; exact M_Scanner_here) (hr.mono (by omega)) tk (e_var 0)) (m_one (ss_one (s_ret (e_tup (a_cons e_str (a_cons (e_meth (ms := fun C t => C = A.Scanner ∧ t = (sp_rmems A.Scanner A.NotText A.TooDeep n)) (fun C t h => by obtain ⟨rfl, rfl⟩ := h; exact M_Scanner_read_members) (hr.mono (by omega)) tk (e_var 0) (a_cons e_str a_nil)) a_nil))))) (m_one (ss_one (s_ret (e_tup (a_cons e_str (a_cons (e_meth (ms := fun C t => C = A.Scanner ∧ t = (sp_rmems A.Scanner A.NotText A.TooDeep n)) (fun C t h => by obtain ⟨rfl, rfl⟩ := h; exact M_Scanner_read_members) (hr.mono (by omega)) tk (e_var 0) (a_cons e_str a_nil)) a_nil))))) (m_one (ss_one (s_ret (e_meth0 (ms := fun C t => C = A.Scanner ∧ t = (sp_rstr A.Scanner A.NotText A.TooDeep)) (fun C t h => by obtain ⟨rfl, rfl⟩ := h; exact M_Scanner_read_string) (hr.mono (by omega)) tk (e_var 0)))) (m_or3 (ss_one (s_ret (e_meth0 (ms := fun C t => C = A.Scanner ∧ t = (sp_rword A.Scanner A.NotText A.TooDeep)) (fun C t h => by obtain ⟨rfl, rfl⟩ := h; exact M_Scanner_read_word) (hr.mono (by omega)) tk (e_var 0)))) m_nil)))))
      (ss_one (s_ret (e_meth0 (ms := fun C t => C = A.Scanner ∧ t = (sp_rnum A.Scanner A.NotText A.TooDeep)) (fun C t h => by obtain ⟨rfl, rfl⟩ := h; exact M_Scanner_read_number) (hr.mono (by omega)) tk (e_var 0))))))⟩ ?_
  · obtain ⟨p, z, r, d, b, rfl, hS, hz, hb, hd, h1, h2⟩ := h
    rfl
  · walk_at "mono"
  · intro xs S Q X cQ cX h
    obtain ⟨p, z, r, d, b, rfl, hS, hz, hb, hd, h1, h2⟩ := h
    have hT := T.facts
    simp only [KQ.startT, List.map_cons, List.map_nil, List.length_cons, List.length_nil, Nat.reduceAdd, Nat.reduceSub, List.replicate_succ, List.replicate_zero, List.cons_append, List.nil_append]
    replace h1 := Hide.mk h1
    replace h2 := Hide.mk h2
    unfold scT at hS
    walk_at "vn"
    refine ⟨p, z, r, d, rfl, hS, hz, ?_⟩
    unfold scT
    walk_at "vn"
    refine ⟨p, z, blk r, d, rfl, put_same, hz.up (blk_suf r), ?_⟩
    walk_at "vn"
    have hz1 := hz.up (blk_suf r)
    have hm : ∀ (s : String) (k : Nat), TL.tl (Str.ofString s) = [k] → (mkS (List.take 1 (blk r)) ∈ [Str.ofString s] ↔ (blk r).head? = some k) := fun s k e => by rw [List.mem_singleton]; exact hd_eq e
    by_cases h91 : (blk r).head? = some 91
    · rw [if_pos ((hm "[" 91 (by decide +kernel)).mpr h91)]
      have v := val_row (b := b) h91
      refine ⟨p, z, blk r, d, b, false, by rw [show Str.ofString "]" = mkS [clC false] by decide +kernel], put_same, hz1, (fun e => by rw [e] at h91; cases h91), hb, hd, fun q e => ?_, fun e c' he => ?_⟩
      · obtain ⟨w, e2, e3⟩ := v.2 q e
        rw [put_put, ← e3]
        exact h1.go (w, q.2) e2
      · rw [put_put]
        exact h2.go e c' (v.1 e he)
    rw [if_neg (fun e => h91 ((hm "[" 91 (by decide +kernel)).mp e))]
    by_cases h123 : (blk r).head? = some 123
    · rw [if_pos ((hm "{" 123 (by decide +kernel)).mpr h123)]
      have v := val_tab (b := b) h123
      refine ⟨p, z, blk r, d, b, true, by rw [show Str.ofString "}" = mkS [clC true] by decide +kernel], put_same, hz1, (fun e => by rw [e] at h123; cases h123), hb, hd, fun q e => ?_, fun e c' he => ?_⟩
      · obtain ⟨w, e2, e3⟩ := v.2 q e
        rw [put_put, ← e3]
        exact h1.go (w, q.2) e2
      · rw [put_put]
        exact h2.go e c' (v.1 e he)
    rw [if_neg (fun e => h123 ((hm "{" 123 (by decide +kernel)).mp e))]
    rw [val_leaf h91 h123] at h1 h2
    unfold pLeaf at h1 h2
    by_cases h34 : (blk r).head? = some 34
    · rw [if_pos ((hm "\"" 34 (by decide +kernel)).mpr h34)]
      rw [if_pos h34] at h1 h2
      refine ⟨p, z, blk r, d, rfl, put_same, hz1, fun q e => ?_, fun e c' he => ?_⟩
      · rw [put_put]
        exact h1.go (.str (mkS q.1), q.2) (by rw [e])
      · rw [put_put]
        exact h2.go e c' (by rw [he])
    rw [if_neg (fun e => h34 ((hm "\"" 34 (by decide +kernel)).mp e))]
    rw [if_neg h34] at h1 h2
    have hw : mkS (List.take 1 (blk r)) ∈ [Str.ofString "n", Str.ofString "t", Str.ofString "f"] ↔ ((blk r).head? = some 110 ∨ (blk r).head? = some 116 ∨ (blk r).head? = some 102) := by
      simp only [List.mem_cons, List.not_mem_nil, or_false]
      rw [hd_eq (s := "n") (k := 110) (by decide +kernel), hd_eq (s := "t") (k := 116) (by decide +kernel), hd_eq (s := "f") (k := 102) (by decide +kernel)]
    by_cases hww : (blk r).head? = some 110 ∨ (blk r).head? = some 116 ∨ (blk r).head? = some 102
    · rw [if_pos (hw.mpr hww)]
      rw [if_pos hww] at h1 h2
      refine ⟨p, z, blk r, d, rfl, put_same, hz1, hww, fun q e => ?_, fun e c' he => ?_⟩
      · rw [put_put]
        exact h1.go q e
      · rw [put_put]
        exact h2.go e c' he
    rw [if_neg (fun e => hww (hw.mp e))]
    rw [if_neg hww] at h1 h2
    refine ⟨p, z, blk r, d, rfl, put_same, hz1, fun q e => ?_, fun e c' he => ?_⟩
    · rw [put_put]
      exact h1.go q e
    · rw [put_put]
      exact h2.go e c' he
theorem ok_Scanner_read_value (T : Top K mg A) {k : Nat} (M_Scanner_expect : MthT P w K mg base k A.Scanner "expect" (sp_expect A.Scanner A.NotText A.TooDeep)) (M_Scanner_read_string : MthT P w K mg base k A.Scanner "read_string" (sp_rstr A.Scanner A.NotText A.TooDeep)) (M_Scanner_skip_blanks : MthT P w K mg base k A.Scanner "skip_blanks" (sp_skip A.Scanner)) (M_Scanner_here : MthT P w K mg base k A.Scanner "here" (sp_here A.Scanner)) (X_TooDeep : ExcT P w K mg base k "TooDeep" A.TooDeep ["position"]) (M_Scanner_read_number : MthT P w K mg base k A.Scanner "read_number" (sp_rnum A.Scanner A.NotText A.TooDeep)) (M_Scanner_read_word : MthT P w K mg base k A.Scanner "read_word" (sp_rword A.Scanner A.NotText A.TooDeep)) : ∀ n, MthT P w K mg base (k + 1 + 3 * n) A.Scanner "read_value" (sp_rval A.Scanner A.NotText A.TooDeep n)
  | 0 => DefM.mthBot (ps := ["self"]) T.m_Scanner_read_value T.c_Scanner.ci.cl (fun _ _ _ _ _ _ us hl => match us, hl with | [_], _ => rfl) (fun xs S Q X h => by
      obtain ⟨_, _, _, _, _, _, _, _, h, _⟩ := h
      omega)
  | n + 1 => by
    have M_Scanner_read_value_0 := ok_Scanner_read_value (k := k) T M_Scanner_expect M_Scanner_read_string M_Scanner_skip_blanks M_Scanner_here X_TooDeep M_Scanner_read_number M_Scanner_read_word n
    have M_Scanner_read_member_0 := ok_Scanner_read_member T (k := k + 3 * n + 1) (n := n) (M_Scanner_expect.lift (by omega)) (M_Scanner_read_string.lift (by omega)) (M_Scanner_skip_blanks.lift (by omega)) (M_Scanner_read_value_0.lift (by omega))
    have M_Scanner_read_members_0 := ok_Scanner_read_members T (k := k + 3 * n + 1) (n := n) (M_Scanner_expect.lift (by omega)) (M_Scanner_here.lift (by omega)) (M_Scanner_skip_blanks.lift (by omega)) (X_TooDeep.lift (by omega)) (M_Scanner_read_member_0.lift (by omega))
    exact (step_Scanner_read_value T (k := k + 3 * n + 3) (M_Scanner_here.lift (by omega)) (M_Scanner_read_number.lift (by omega)) (M_Scanner_read_string.lift (by omega)) (M_Scanner_read_word.lift (by omega)) (M_Scanner_skip_blanks.lift (by omega)) (M_Scanner_read_members_0.lift (by omega))).lift (by omega)

/-! ### Scanner.__init__ -/
abbrev N_Scanner___init__ : List Str := ["self", "text"]
theorem sc_Scanner___init__ : FnScope N_Scanner___init__ ["self", "text"] (defScope s_Scanner___init__) := ⟨rfl, rfl, rfl, by decide +kernel, rfl, by decide +kernel, by decide +kernel⟩
def sp_scn_init (C : Addr) : TSp := fun xs S Q X => ∃ (p : Addr) (z : Str), xs = [.ref p, .str z] ∧ S p = some (.ins C [] []) ∧ Q .non (put S p (scT C z (TL.tl z) 0))
def sp_scn (C : Addr) : TSp := fun xs S Q X => ∃ (z : Str), xs = [.str z] ∧ ∀ p, S p = none → Q (.ref p) (put S p (scT C z (TL.tl z) 0))
theorem ok_Scanner___init__ (T : Top K mg A) {k : Nat}  : NewT P w K mg base (k + 1) "Scanner" A.Scanner (sp_scn A.Scanner) := by
  have nd := sc_Scanner___init__.nd
  refine DefM.newT T.m_Scanner___init__ T.c_Scanner.mak T.c_Scanner.kp T.c_Scanner.mg sc_Scanner___init__ (fun _ _ _ _ _ _ us hl => match us, hl with | [_, _], _ => rfl) (fun xs S Q X h => ?_) (tI := (sp_scn_init A.Scanner)) ?_ ?_ ⟨fun f cdv AA outer s H E hr tk po => have hu := hu_of hr; (ss_cons (s_fldK (K := K) rfl (e_var 0) (e_var 1) rfl)
      (ss_cons (s_fldK (K := K) rfl (e_var 0) e_int rfl)
      (ss_one (s_fldK (K := K) rfl (e_var 0) e_int rfl))))⟩ ?_ ?_
  · obtain ⟨p, z, rfl, hS, hq⟩ := h
    rfl
  · walk_at "mono"
  · walk_at "mono"
  · intro xs S Q X cQ cX h
    obtain ⟨p, z, rfl, hS, hq⟩ := h
    have hT := T.facts
    simp only [KQ.startT, List.map_cons, List.map_nil, List.length_cons, List.length_nil, Nat.reduceAdd, Nat.reduceSub, List.replicate_succ, List.replicate_zero, List.cons_append, List.nil_append]
    unfold scT at hq
    have e : z.length - (TL.tl z).length = 0 := by rw [TL.len_tl]; exact Nat.sub_self _
    rw [e] at hq
    replace hq := Hide.mk hq
    walk_at "vn"
    exact ⟨by decide, by decide, by decide, hq.go⟩
  · rintro xs S Q X cQ cX ⟨z, rfl, hq⟩ a n
    exact ⟨a, z, rfl, put_same, rfl, by rw [put_put]; exact hq a n⟩

/-! ### parse -/
abbrev N_parse : List Str := ["text", "scanner", "raw"]
theorem sc_parse : FnScope N_parse ["text"] (defScope s_parse) := ⟨rfl, rfl, rfl, by decide +kernel, rfl, by decide +kernel, by decide +kernel⟩
def sp_parse (C N D : Addr) : TSp := fun xs S Q X => ∃ z : Str, xs = [.str z] ∧ Pr z ∧ z.length ≤ 4000000 ∧ (∀ v, pText (TL.tl z) = .ok v → Q (rT v) S) ∧ ∀ e, pText (TL.tl z) = .error e → X (.ref (errC N D e)) ["position"] [posT z e] S
theorem ok_parse (T : Top K mg A) {k : Nat} (M_Scanner_read_value : MthT P w K mg base k A.Scanner "read_value" (sp_rval A.Scanner A.NotText A.TooDeep 61)) (M_Scanner_skip_blanks : MthT P w K mg base k A.Scanner "skip_blanks" (sp_skip A.Scanner)) (C_Scanner : NewT P w K mg base k "Scanner" A.Scanner (sp_scn A.Scanner)) (X_NotText : ExcT P w K mg base k "NotText" A.NotText ["position"])  : CalleeT P w K mg base (k + 1 + 1) "parse" ["text"] (sp_parse A.Scanner A.NotText A.TooDeep) := by
  have nd := sc_parse.nd
  refine Def.okT T.d_parse sc_parse (fun _ _ _ _ _ _ us hl => match us, hl with | [_], _ => rfl) (fun xs S Q X h => ?_) ?_ (fun f cdv AA outer s H E hr tk po => have hu := hu_of hr; (ss_cons (s_set (i := 1) nd rfl (Or.inl rfl) (e_new C_Scanner hr (by rfl) tk (a_cons (e_var 0) a_nil)))
      (ss_cons (s_set (i := 2) nd rfl (Or.inl rfl) (e_meth0 (ms := fun C t => C = A.Scanner ∧ t = (sp_rval A.Scanner A.NotText A.TooDeep 61)) (fun C t h => by obtain ⟨rfl, rfl⟩ := h; exact M_Scanner_read_value) (hr.mono (by omega)) tk (e_var 1)))
      (ss_cons (s_expr (e_meth0 (ms := fun C t => C = A.Scanner ∧ t = (sp_skip A.Scanner)) (fun C t h => by obtain ⟨rfl, rfl⟩ := h; exact M_Scanner_skip_blanks) (hr.mono (by omega)) tk (e_var 1)))
      (ss_cons (s_if (t_cmp (ne_op hr) o_eq (e_fldK (K := K) rfl (e_var 1) rfl) (e_callB len_op c_len (by rfl) T.b.b_len boot_len (a_cons (e_var 0) a_nil)) (nomark _)) (ss_one (s_raise X_NotText rfl (hr.mono (by omega)) (by rfl) tk (a_cons (e_fldK (K := K) rfl (e_var 1) rfl) a_nil))) ss_nil)
      (ss_one (s_ret (e_var 2)))))))) ?_
  · obtain ⟨z, rfl, pz, lz, h1, h2⟩ := h
    rfl
  · walk_at "mono"
  · intro xs S Q X cQ cX h
    obtain ⟨z, rfl, pz, lz, h1, h2⟩ := h
    have hT := T.facts
    simp only [KQ.startT, List.map_cons, List.map_nil, List.length_cons, List.length_nil, Nat.reduceAdd, Nat.reduceSub, List.replicate_succ, List.replicate_zero, List.cons_append, List.nil_append]
    replace h1 := Hide.mk h1
    replace h2 := Hide.mk h2
    walk_at "vn"
    refine ⟨z, rfl, fun p np => ?_⟩
    have z0 : ZS z (TL.tl z) := ⟨List.suffix_refl _, pz, lz⟩
    have x2 : ∀ e c', pText (TL.tl z) = .error e → X (.ref (errC A.NotText A.TooDeep e)) ["position"] [posT z e] (put S p c') := fun e c' h => cX _ _ _ _ _ (sub_new np) (h2.go e h)
    have q1 : ∀ v c', pText (TL.tl z) = .ok v → Q (rT v) (put S p c') := fun v c' h => cQ.drop (sub_new np) (h1.go v h)
    clear h1 h2
    replace x2 := Hide.mk x2
    replace q1 := Hide.mk q1
    unfold scT
    walk_at "vn"
    refine ⟨p, z, TL.tl z, 0, 60, rfl, by unfold scT; exact put_same, z0, by omega, by omega, fun q e1 => ?_, fun e c' e1 => ?_⟩
    rotate_left
    · rw [put_put]
      exact x2.go e c' (by unfold pText; rw [e1])
    have zq : ZS z q.2 := z0.up ((pVal_suf 60 (TL.tl z)).1 _ e1)
    rw [put_put]
    unfold scT
    walk_at "vn"
    refine ⟨p, z, q.2, 0, rfl, by unfold scT; exact put_same, zq, ?_⟩
    rw [put_put]
    unfold scT
    walk_at "vn"
    have zl := (zq.up (blk_suf q.2)).le
    have pt : pText (TL.tl z) = if (blk q.2).isEmpty = true then .ok q.1 else .error (.nott (blk q.2)) := by unfold pText; rw [e1]
    have vv : ∀ S', vw S' (rT q.1) = rT q.1 := fun _ => by cases q.1 <;> rfl
    refine ⟨szM lz, ?_⟩
    by_cases hb : blk q.2 = []
    · rw [if_neg (by rw [hb]; simp)]
      exact q1.go q.1 _ (by rw [pt, hb]; rfl)
    · have : 0 < (blk q.2).length := List.length_pos_iff.mpr hb
      rw [if_pos (by omega)]
      exact x2.go (.nott (blk q.2)) _ (by rw [pt, if_neg (by simpa using hb)])

/-! ### _law_read -/
abbrev N__law_read : List Str := ["_law_text_here", "_law_raw_here", "e"]
theorem sc__law_read : FnScope N__law_read ["_law_text_here"] (defScope s__law_read) := ⟨rfl, rfl, rfl, by decide +kernel, rfl, by decide +kernel, by decide +kernel⟩
def errW : PErr → Str
  | .nott _ => "not"
  | .deep _ => "deep"
def sp_lread : TSp := fun xs S Q X => ∃ z : Str, xs = [.str z] ∧ Pr z ∧ z.length ≤ 4000000 ∧ (∀ v, pText (TL.tl z) = .ok v → Q (.tup [.str "raw", rT v]) S) ∧ ∀ e, pText (TL.tl z) = .error e → Q (.tup [.str (errW e), posT z e]) S
theorem ok__law_read (T : Top K mg A) {k : Nat} (C_parse : CalleeT P w K mg base k "parse" ["text"] (sp_parse A.Scanner A.NotText A.TooDeep))  : CalleeT P w K mg base (k + 1) "_law_read" ["_law_text_here"] (sp_lread) := by
  have nd := sc__law_read.nd
  refine Def.okT T.d__law_read sc__law_read (fun _ _ _ _ _ _ us hl => match us, hl with | [_], _ => rfl) (fun xs S Q X h => ?_) ?_ (fun f cdv AA outer s H E hr tk po => have hu := hu_of hr; (ss_cons (s_try (K := K) rfl rfl rfl tk (fun W pn xe tk po => (ss_one (s_set (i := 1) nd rfl (Or.inl rfl) (e_call C_parse (hr.mono (by omega)) (by rfl) tk (a_cons (e_var 0) a_nil))))) (.named (i := 2) nd rfl rfl ⟨by rfl, by decide, .inl T.c_NotText.mg⟩ (fun e d o k pn z f => (ss_one (s_ret (e_tup (a_cons e_str (a_cons (e_xf z.zc f (K := K) rfl (e_var 2) rfl) a_nil)))))) (.named (i := 2) nd rfl rfl ⟨by rfl, by decide, .inl T.c_TooDeep.mg⟩ (fun e d o k pn z f => (ss_one (s_ret (e_tup (a_cons e_str (a_cons (e_xf z.zc f (K := K) rfl (e_var 2) rfl) a_nil)))))) (.only ⟨by rfl, by decide, .inl T.c_KeysError.mg⟩ (fun e d o k pn z f => (ss_one (s_ret (e_tup (a_cons e_str (a_cons e_int a_nil)))))) .nil))))
      (ss_one (s_ret (e_tup (a_cons e_str (a_cons (e_var 1) a_nil))))))) ?_
  · obtain ⟨z, rfl, pz, lz, h1, h2⟩ := h
    rfl
  · walk_at "mono"
  · intro xs S Q X cQ cX h
    obtain ⟨z, rfl, pz, lz, h1, h2⟩ := h
    have hT := T.facts
    simp only [KQ.startT, List.map_cons, List.map_nil, List.length_cons, List.length_nil, Nat.reduceAdd, Nat.reduceSub, List.replicate_succ, List.replicate_zero, List.cons_append, List.nil_append]
    replace h1 := Hide.mk h1
    replace h2 := Hide.mk h2
    have nf1 := T.nf_NotText_position
    have nf2 := T.nf_TooDeep_position
    walk_at "vn"
    refine ⟨z, rfl, pz, lz, fun v hv => h1.go v hv, fun e he => ?_⟩
    cases e with
    | nott r =>
      have h3 := h2.go _ he
      clear h1 h2
      simp only [errC, errW] at h3 ⊢
      walk_at "vn"
      all_goals exact h3
    | deep r =>
      have h3 := h2.go _ he
      clear h1 h2
      simp only [errC, errW] at h3 ⊢
      walk_at "vn"
      all_goals exact h3

/-! ### _law_after -/
abbrev N__law_after : List Str := ["_law_state", "_law_sign_here", "_law_top"]
theorem sc__law_after : FnScope N__law_after ["_law_state", "_law_sign_here"] (defScope s__law_after) := ⟨rfl, rfl, rfl, by decide +kernel, rfl, by decide +kernel, by decide +kernel⟩
def moN : Mo → Str
  | .value => "value"
  | .first b => if b = true then "first {" else "first ["
  | .name => "name"
  | .colon => "colon"
  | .after => "after"
  | .str _ => "string"
  | .esc _ => "escape"
  | .word _ => "word"
  | .minus => "minus"
  | .figs _ => "figures"
  | .deep => "deep"
def stKs : List Key := [.inr "mode", .inr "stack", .inr "rest", .inr "count", .inr "name"]
def brT (b : Bool) : Tr := .str (if b = true then "{" else "[")
def W16 (S : Sto) (s q : Addr) (m : Str) (st : List Bool) (rest : Str) (cnt : Int) (nm : Bool) : Sto := put (put S q (.lst (st.reverse.map brT))) s (.dic stKs [.str m, .ref q, .str rest, .int cnt, .bl nm])
theorem g16_mode {x b c d e : Tr} : kget (.inr (Str.ofString "mode")) stKs [x, b, c, d, e] = some x := by simp [stKs, kget, ofS_inj]
theorem g16_stack {x b c d e : Tr} : kget (.inr (Str.ofString "stack")) stKs [x, b, c, d, e] = some b := by simp [stKs, kget, ofS_inj]
theorem g16_rest {x b c d e : Tr} : kget (.inr (Str.ofString "rest")) stKs [x, b, c, d, e] = some c := by simp [stKs, kget, ofS_inj]
theorem g16_count {x b c d e : Tr} : kget (.inr (Str.ofString "count")) stKs [x, b, c, d, e] = some d := by simp [stKs, kget, ofS_inj]
theorem g16_name {x b c d e : Tr} : kget (.inr (Str.ofString "name")) stKs [x, b, c, d, e] = some e := by simp [stKs, kget, ofS_inj]
theorem has16 {k : Key} (h : k ∈ stKs) : hasK k stKs = true := hasK_iff.mpr h
theorem n16 {k : Key} (h : hasK k stKs = true) : kputN k stKs = stKs := by unfold kputN; rw [h]; rfl
theorem h16_mode : hasK (.inr (Str.ofString "mode")) stKs = true := has16 (by simp [stKs])
theorem h16_rest : hasK (.inr (Str.ofString "rest")) stKs = true := has16 (by simp [stKs])
theorem h16_count : hasK (.inr (Str.ofString "count")) stKs = true := has16 (by simp [stKs])
theorem h16_name : hasK (.inr (Str.ofString "name")) stKs = true := has16 (by simp [stKs])
theorem p16_mode {x b c d e y : Tr} : kputX (.inr (Str.ofString "mode")) y stKs [x, b, c, d, e] = [y, b, c, d, e] := by unfold kputX; rw [if_pos h16_mode]; simp [stKs, kmap, ofS_inj]
theorem p16_rest {x b c d e y : Tr} : kputX (.inr (Str.ofString "rest")) y stKs [x, b, c, d, e] = [x, b, y, d, e] := by unfold kputX; rw [if_pos h16_rest]; simp [stKs, kmap, ofS_inj]
theorem p16_count {x b c d e y : Tr} : kputX (.inr (Str.ofString "count")) y stKs [x, b, c, d, e] = [x, b, c, y, e] := by unfold kputX; rw [if_pos h16_count]; simp [stKs, kmap, ofS_inj]
theorem p16_name {x b c d e y : Tr} : kputX (.inr (Str.ofString "name")) y stKs [x, b, c, d, e] = [x, b, c, d, y] := by unfold kputX; rw [if_pos h16_name]; simp [stKs, kmap, ofS_inj]
theorem w16_s {S : Sto} {s q : Addr} {m : Str} {st : List Bool} {rest : Str} {cnt : Int} {nm : Bool} : W16 S s q m st rest cnt nm s = some (.dic stKs [.str m, .ref q, .str rest, .int cnt, .bl nm]) := put_same
theorem w16_q {S : Sto} {s q : Addr} {m : Str} {st : List Bool} {rest : Str} {cnt : Int} {nm : Bool} (h : s ≠ q) : W16 S s q m st rest cnt nm q = some (.lst (st.reverse.map brT)) := by
  unfold W16; rw [put_ne h.symm]; exact put_same
theorem w16_ps {S : Sto} {s q : Addr} {m m2 : Str} {st : List Bool} {rest rest2 : Str} {cnt cnt2 : Int} {nm nm2 : Bool} : put (W16 S s q m st rest cnt nm) s (.dic stKs [.str m2, .ref q, .str rest2, .int cnt2, .bl nm2]) = W16 S s q m2 st rest2 cnt2 nm2 := put_put
theorem w16_pq {S : Sto} {s q : Addr} {m : Str} {st st2 : List Bool} {rest : Str} {cnt : Int} {nm : Bool} (h : s ≠ q) : put (W16 S s q m st rest cnt nm) q (.lst (st2.reverse.map brT)) = W16 S s q m st2 rest cnt nm := by
  unfold W16
  rw [put_comm h, put_put]
theorem cat_eq {a c k1 k2 : Nat} {x l : Str} (hx : TL.tl x = [a]) (hl : TL.tl l = [k1, k2]) : (x ++ (⟨#[c]⟩ : Str) = l) = (a = k1 ∧ c = k2) := by
  have e : TL.tl (x ++ (⟨#[c]⟩ : Str)) = [a, c] := by rw [TL.tl_append, hx]; rfl
  refine propext ⟨fun h => ?_, fun h => ?_⟩
  · rw [h, hl] at e
    injection e with e1 e2
    injection e2 with e2 _
    exact ⟨e1.symm, e2.symm⟩
  · obtain ⟨rfl, rfl⟩ := h
    exact TL.ext_tl (by rw [e, hl])
theorem sg_eq {c k : Nat} {l : Str} (h : TL.tl l = [k]) : ((⟨#[c]⟩ : Str) = l) = (c = k) := by
  refine propext ⟨fun e => ?_, fun e => ?_⟩
  · rw [← e] at h
    have : [c] = [k] := h
    exact (List.cons.inj this).1
  · subst e
    exact TL.ext_tl (by rw [h])
def Vars (mo : Mo) (rest : Str) (cnt : Int) (nm : Bool) : Prop := match mo with
  | .word w => rest = mkS w ∧ w ≠ [] ∧ w.length ≤ 4
  | .minus => cnt = 1
  | .figs n => cnt = n ∧ n ≤ 30
  | .str n => nm = n
  | .esc n => nm = n
  | _ => True
theorem mem19 {c : Nat} : decide (c ∈ (Str.ofString "123456789").cps.toList) = decide (49 ≤ c ∧ c ≤ 57) := by
  rw [show (Str.ofString "123456789").cps.toList = [49, 50, 51, 52, 53, 54, 55, 56, 57] by decide +kernel, decide_eq_decide]
  simp only [List.mem_cons, List.not_mem_nil, or_false]
  omega
def sp_after16 : TSp := fun xs S Q X => ∃ (S0 : Sto) (s q : Addr) (m : Str) (st : List Bool) (rest : Str) (cnt : Int) (nm : Bool) (c : Nat), xs = [.ref s, sgnT c] ∧ s ≠ q ∧ S = W16 S0 s q m st rest cnt nm ∧ st.length ≤ 60 ∧
  Q (.bl (stAfter st c).ok) (W16 S0 s q (moN (stAfter st c).mo) (stAfter st c).st rest cnt nm)
theorem ok__law_after (T : Top K mg A) {k : Nat}   : CalleeT P w K mg base (k + 1) "_law_after" ["_law_state", "_law_sign_here"] (sp_after16) := by
  have nd := sc__law_after.nd
  refine Def.okT T.d__law_after sc__law_after (fun _ _ _ _ _ _ us hl => match us, hl with | [_, _], _ => rfl) (fun xs S Q X h => ?_) ?_ (fun f cdv AA outer s H E hr tk po => have hu := hu_of hr; (ss_cons (s_dput hu (e_var 0) e_str e_str rfl)
      (ss_cons (s_if (t_cmp (eq_op hr) o_eq (e_var 1) e_str (nomark _)) (ss_one (s_ret e_bl)) ss_nil)
      (ss_cons (s_if (t_cmp (eqnil_op hr) o_nil (e_ix (ix_op hr) o_ix (e_var 0) e_str (fun _ _ => rfl)) (e_lst a_nil) (nomark _)) (ss_one (s_ret e_bl)) ss_nil)
      (ss_cons (s_set (i := 2) nd rfl (Or.inl rfl) (e_ix (ix_op hr) o_ix (e_ix (ix_op hr) o_ix (e_var 0) e_str (fun _ _ => rfl)) (e_un un_neg u_neg e_int) (fun _ _ => rfl)))
      (ss_cons (s_if (t_cmp (eq_op hr) o_eq (e_var 1) e_str (nomark _)) (ss_cons (s_dput hu (e_var 0) e_str (e_ix (ix_op hr) o_ix (e_lst (a_cons e_str (a_cons e_str a_nil))) (e_callTy KB.int_any c_int (by rfl) T.b.b_int boot_int (a_cons (e_cmp (eq_op hr) o_eq (e_var 2) e_str (nomark _)) a_nil)) (fun _ _ => rfl)) rfl)
      (ss_one (s_ret e_bl))) ss_nil)
      (ss_cons (s_if (TPW.pt (w_or (t_cmp (eq_op hr) o_eq (e_op ad_op o_add (e_var 2) (e_var 1)) e_str (nomark _)) (w_or1 (t_cmp (eq_op hr) o_eq (e_op ad_op o_add (e_var 2) (e_var 1)) e_str (nomark _))))) (ss_cons (s_expr (e_mm0 m_pop (e_ix (ix_op hr) o_ix (e_var 0) e_str (fun _ _ => rfl)) (fun ho => pe_bm0 PySem.F.plainAttrs_list PySem.F.slot_list_pop PySem.F.type_list_pop mt_pop ho)))
      (ss_one (s_ret e_bl))) ss_nil)
      (ss_one (s_ret e_bl))))))))) ?_
  · obtain ⟨S0, s, q, m, st, rest, cnt, nm, c, rfl, hsq, rfl, ln, hq⟩ := h
    rfl
  · walk_at "mono"
  · intro xs S Q X cQ cX h
    obtain ⟨S0, s, q, m, st, rest, cnt, nm, c, rfl, hsq, rfl, ln, hq⟩ := h
    have hT := T.facts
    simp only [KQ.startT, List.map_cons, List.map_nil, List.length_cons, List.length_nil, Nat.reduceAdd, Nat.reduceSub, List.replicate_succ, List.replicate_zero, List.cons_append, List.nil_append]
    have g1 := @g16_mode
    have g2 := @g16_stack
    have p1 := @p16_mode
    have n1 := n16 h16_mode
    have r1 := @w16_s S0 s q
    have r2 : ∀ m st rest cnt nm, W16 S0 s q m st rest cnt nm q = some (.lst (st.reverse.map brT)) := fun _ _ _ _ _ => w16_q hsq
    have r3 := @w16_ps S0 s q
    have s1 : stKs.length < sizeLine := by decide
    have c1 := sg_eq (c := c) (k := 32) (l := Str.ofString " ") (by decide +kernel)
    have c2 := sg_eq (c := c) (k := 44) (l := Str.ofString ",") (by decide +kernel)
    unfold sgnT
    replace hq := Hide.mk hq
    walk_at "vn"
    clear c1 c2
    by_cases h1 : c = 32
    · rw [if_pos h1]
      have e : stAfter st c = ⟨.after, st, true⟩ := by unfold stAfter; rw [if_pos h1]
      have := hq.go; rw [e] at this; exact this
    rw [if_neg h1]
    cases st with
    | nil =>
      rw [if_pos (show (List.map brT ([] : List Bool).reverse).isEmpty = true from rfl)]
      have e : stAfter [] c = ⟨.after, [], false⟩ := by unfold stAfter; rw [if_neg h1]
      have := hq.go; rw [e] at this; exact this
    | cons b s2 =>
      have el : (b :: s2).reverse.map brT = s2.reverse.map brT ++ [brT b] := by rw [List.reverse_cons, List.map_append]; rfl
      have pq : put (W16 S0 s q (Str.ofString "after") (b :: s2) rest cnt nm) q (.lst (s2.reverse.map brT)) = W16 S0 s q (Str.ofString "after") s2 rest cnt nm := w16_pq hsq
      have dl : ((b :: s2).reverse.map brT).dropLast = s2.reverse.map brT := by rw [el, List.dropLast_concat]
      have lx : ∃ x, ((b :: s2).reverse.map brT)[(b :: s2).reverse.length - 1]? = some x := ⟨brT b, by rw [el, List.length_reverse, List.length_cons, Nat.add_sub_cancel]; rw [List.getElem?_append_right (by simp)]; simp⟩
      rw [if_neg (by rw [el]; simp)]
      refine ⟨brT b, by rw [el]; exact atI_last, ?_⟩
      rw [dl, pq]
      by_cases h44 : c = 44
      · rw [if_pos h44]
        have e : stAfter (b :: s2) c = ⟨if b = true then .name else .value, b :: s2, true⟩ := by unfold stAfter; rw [if_neg h1]; dsimp only; rw [if_pos h44]
        have hq := hq.go
        rw [e] at hq
        replace lx := Hide.mk lx
        cases b with
        | true =>
          have a1 : atI [Tr.str (Str.ofString "value"), .str (Str.ofString "name")] 1 = some (.str (Str.ofString "name")) := atI_nat (j := 1) rfl
          replace hq := Hide.mk hq
          simp only [brT, if_true]
          walk_at "vn"
          all_goals exact hq.go
        | false =>
          have a0 : atI [Tr.str (Str.ofString "value"), .str (Str.ofString "name")] 0 = some (.str (Str.ofString "value")) := atI_nat (j := 0) rfl
          replace hq := Hide.mk hq
          simp only [brT, Bool.false_eq_true, if_false]
          walk_at "vn"
          all_goals exact hq.go
      · rw [if_neg h44]
        have e : stAfter (b :: s2) c = if c = clB b then ⟨.after, s2, true⟩ else ⟨.after, b :: s2, false⟩ := by unfold stAfter; rw [if_neg h1]; dsimp only; rw [if_neg h44]
        have hq := hq.go
        rw [e] at hq
        cases b with
        | true =>
          have l1 : (Str.ofString "{").length + (⟨#[c]⟩ : Str).length ≤ sizeLine := by
            rw [show (Str.ofString "{").length = 1 by decide +kernel]; show 1 + 1 ≤ sizeLine; decide
          have k1 := cat_eq (a := 123) (c := c) (x := Str.ofString "{") (l := Str.ofString "[]") (k1 := 91) (k2 := 93) (by decide +kernel) (by decide +kernel)
          have k2 := cat_eq (a := 123) (c := c) (x := Str.ofString "{") (l := Str.ofString "{}") (k1 := 123) (k2 := 125) (by decide +kernel) (by decide +kernel)
          simp only [brT, if_true]
          replace hq := Hide.mk hq
          rw [el] at lx
          replace lx := Hide.mk lx
          walk_at "vn"
          rw [if_neg (show ¬ ((123 : Nat) = 91 ∧ c = 93) by omega)]
          have hq := hq.go
          by_cases hc : c = 125
          · rw [if_pos (show c = clB true from hc)] at hq
            rw [if_pos hc]
            exact ⟨lx.go, hq⟩
          · rw [if_neg (show ¬ c = clB true from hc)] at hq
            rw [if_neg hc]
            exact hq
        | false =>
          have l1 : (Str.ofString "[").length + (⟨#[c]⟩ : Str).length ≤ sizeLine := by
            rw [show (Str.ofString "[").length = 1 by decide +kernel]; show 1 + 1 ≤ sizeLine; decide
          have k1 := cat_eq (a := 91) (c := c) (x := Str.ofString "[") (l := Str.ofString "[]") (k1 := 91) (k2 := 93) (by decide +kernel) (by decide +kernel)
          have k2 := cat_eq (a := 91) (c := c) (x := Str.ofString "[") (l := Str.ofString "{}") (k1 := 123) (k2 := 125) (by decide +kernel) (by decide +kernel)
          simp only [brT, Bool.false_eq_true, if_false]
          replace hq := Hide.mk hq
          rw [el] at lx
          replace lx := Hide.mk lx
          walk_at "vn"
          have hq := hq.go
          by_cases hc : c = 93
          · rw [if_pos (show c = clB false from hc)] at hq
            rw [if_pos hc]
            exact ⟨lx.go, hq⟩
          · rw [if_neg (show ¬ c = clB false from hc)] at hq
            rw [if_neg hc, if_neg (show ¬ ((91 : Nat) = 123 ∧ c = 125) by omega)]
            exact hq

/-! ### _law_begin -/
abbrev N__law_begin : List Str := ["_law_state", "_law_sign_here", "_law_word"]
theorem sc__law_begin : FnScope N__law_begin ["_law_state", "_law_sign_here"] (defScope s__law_begin) := ⟨rfl, rfl, rfl, by decide +kernel, rfl, by decide +kernel, by decide +kernel⟩
def sp_begin16 : TSp := fun xs S Q X => ∃ (S0 : Sto) (s q : Addr) (m : Str) (st : List Bool) (rest : Str) (cnt : Int) (nm : Bool) (c : Nat), xs = [.ref s, sgnT c] ∧ s ≠ q ∧ S = W16 S0 s q m st rest cnt nm ∧ st.length ≤ 60 ∧
  ∀ rest' cnt' nm', ((stBegin st c).ok = true → Vars (stBegin st c).mo rest' cnt' nm') → Q (.bl (stBegin st c).ok) (W16 S0 s q (moN (stBegin st c).mo) (stBegin st c).st rest' cnt' nm')
theorem ok__law_begin (T : Top K mg A) {k : Nat}   : CalleeT P w K mg base (k + 1) "_law_begin" ["_law_state", "_law_sign_here"] (sp_begin16) := by
  have nd := sc__law_begin.nd
  refine Def.okT T.d__law_begin sc__law_begin (fun _ _ _ _ _ _ us hl => match us, hl with | [_, _], _ => rfl) (fun xs S Q X h => ?_) ?_ (fun f cdv AA outer s H E hr tk po => have hu := hu_of hr; (ss_cons (s_if (TPW.pt (w_or (t_cmp (eq_op hr) o_eq (e_var 1) e_str (nomark _)) (w_or1 (t_cmp (eq_op hr) o_eq (e_var 1) e_str (nomark _))))) (ss_cons (s_if (t_cmp (eq_op hr) o_eq (e_callB len_op c_len (by rfl) T.b.b_len boot_len (a_cons (e_ix (ix_op hr) o_ix (e_var 0) e_str (fun _ _ => rfl)) a_nil)) e_int (nomark _)) (ss_cons (s_dput hu (e_var 0) e_str e_str rfl)
      (ss_one (s_ret e_bl))) ss_nil)
      (ss_cons (s_expr (e_mm m_append (e_ix (ix_op hr) o_ix (e_var 0) e_str (fun _ _ => rfl)) (a_cons (e_var 1) a_nil) (fun ho ha => pe_bm PySem.F.plainAttrs_list PySem.F.slot_list_append PySem.F.type_list_append mt_append ho ha)))
      (ss_cons (s_dput hu (e_var 0) e_str (e_op ad_op o_add e_str (e_var 1)) rfl)
      (ss_one (s_ret e_bl))))) ss_nil)
      (ss_cons (s_if (t_cmp (eq_op hr) o_eq (e_var 1) e_str (nomark _)) (ss_cons (s_dput hu (e_var 0) e_str e_str rfl)
      (ss_cons (s_dput hu (e_var 0) e_str e_bl rfl)
      (ss_one (s_ret e_bl)))) ss_nil)
      (ss_cons (s_for (.nm 2) po rfl (i_seq (e_lst (a_cons e_str (a_cons e_str (a_cons e_str a_nil))))) (pg_name (i := 2) nd rfl (Or.inl rfl)) (ss_one (s_if (t_cmp (eq_op hr) o_eq (e_var 1) (e_ix (ix_op hr) o_ix (e_var 2) e_int (fun _ _ => rfl)) (nomark _)) (ss_cons (s_dput hu (e_var 0) e_str e_str rfl)
      (ss_cons (s_dput hu (e_var 0) e_str (e_slice (e_var 2) (o_some e_int) o_none) rfl)
      (ss_one (s_ret e_bl)))) ss_nil)))
      (ss_cons (s_dput hu (e_var 0) e_str e_int rfl)
      (ss_cons (s_if (TPW.pt (w_or (t_cmp (eq_op hr) o_eq (e_var 1) e_str (nomark _)) (w_or1 (t_cmp (eq_op hr) o_eq (e_var 1) e_str (nomark _))))) (ss_cons (s_dput hu (e_var 0) e_str (e_ix (ix_op hr) o_ix (e_lst (a_cons e_str (a_cons e_str a_nil))) (e_callTy KB.int_any c_int (by rfl) T.b.b_int boot_int (a_cons (e_cmp (eq_op hr) o_eq (e_var 1) e_str (nomark _)) a_nil)) (fun _ _ => rfl)) rfl)
      (ss_one (s_ret e_bl))) ss_nil)
      (ss_cons (s_dput hu (e_var 0) e_str e_str rfl)
      (ss_one (s_ret (e_cmp (in_op hr) o_in (e_var 1) e_str (by with_unfolding_all rfl))))))))))) ?_
  · obtain ⟨S0, s, q, m, st, rest, cnt, nm, c, rfl, hsq, rfl, ln, hq⟩ := h
    rfl
  · walk_at "mono"
  · intro xs S Q X cQ cX h
    obtain ⟨S0, s, q, m, st, rest, cnt, nm, c, rfl, hsq, rfl, ln, hq⟩ := h
    have hT := T.facts
    simp only [KQ.startT, List.map_cons, List.map_nil, List.length_cons, List.length_nil, Nat.reduceAdd, Nat.reduceSub, List.replicate_succ, List.replicate_zero, List.cons_append, List.nil_append]
    have g1 := @g16_stack
    have p1 := @p16_mode
    have p2 := @p16_rest
    have p3 := @p16_count
    have p4 := @p16_name
    have n1 := n16 h16_mode
    have n2 := n16 h16_rest
    have n3 := n16 h16_count
    have n4 := n16 h16_name
    have r1 := @w16_s S0 s q
    have r2 : ∀ m st rest cnt nm, W16 S0 s q m st rest cnt nm q = some (.lst (st.reverse.map brT)) := fun _ _ _ _ _ => w16_q hsq
    have r3 := @w16_ps S0 s q
    have s1 : stKs.length < sizeLine := by decide
    have c1 := sg_eq (c := c) (k := 91) (l := Str.ofString "[") (by decide +kernel)
    have c2 := sg_eq (c := c) (k := 123) (l := Str.ofString "{") (by decide +kernel)
    have c3 := sg_eq (c := c) (k := 34) (l := Str.ofString "\"") (by decide +kernel)
    have c4 := sg_eq (c := c) (k := 45) (l := Str.ofString "-") (by decide +kernel)
    have c5 := sg_eq (c := c) (k := 48) (l := Str.ofString "0") (by decide +kernel)
    have ai1 : atI (Str.ofString "null").cps.toList 0 = some 110 := by decide +kernel
    have ai2 : atI (Str.ofString "true").cps.toList 0 = some 116 := by decide +kernel
    have ai3 : atI (Str.ofString "false").cps.toList 0 = some 102 := by decide +kernel
    have ct1 : cutS (Str.ofString "null") (some 1) none = mkS [117, 108, 108] := by decide +kernel
    have ct2 : cutS (Str.ofString "true") (some 1) none = mkS [114, 117, 101] := by decide +kernel
    have ct3 : cutS (Str.ofString "false") (some 1) none = mkS [97, 108, 115, 101] := by decide +kernel
    have lz1 : (Str.ofString "null").length ≤ sizeLine := by decide +kernel
    have lz2 : (Str.ofString "true").length ≤ sizeLine := by decide +kernel
    have lz3 : (Str.ofString "false").length ≤ sizeLine := by decide +kernel
    unfold sgnT
    replace hq := Hide.mk hq
    walk_at "vc"
    have z := hq.go
    clear hq c1 c2 c3 c4 c5 ai1 ai2 ai3 ct1 ct2 ct3
    by_cases h91 : c = 91
    · subst h91
      rw [if_pos rfl]
      have z := z rest cnt nm
      have e : stBegin st 91 = if st.length = 60 then ⟨.deep, st, false⟩ else ⟨.first false, false :: st, true⟩ := rfl
      rw [e] at z
      by_cases h60 : st.length = 60
      · rw [if_pos (show (st.reverse.length : Int) = 60 by rw [List.length_reverse]; omega)]
        rw [if_pos h60] at z
        exact z (fun h => nomatch h)
      rw [if_neg (show ¬ (st.reverse.length : Int) = 60 by rw [List.length_reverse]; omega)]
      rw [if_neg h60] at z
      have el : List.map brT st.reverse ++ [Tr.str ⟨#[91]⟩] = (false :: st).reverse.map brT := by
        rw [List.reverse_cons, List.map_append, show (⟨#[91]⟩ : Str) = Str.ofString "[" by decide +kernel]
        rfl
      rw [el, w16_pq hsq]
      refine ⟨szn (by rw [List.length_reverse]; omega), ?_, _, _, r1, s1, ?_⟩
      · rw [show (Str.ofString "first ").length = 6 by decide +kernel]; show 6 + 1 ≤ sizeLine; decide
      rw [n1, p1, r3, show Str.ofString "first " ++ (⟨#[91]⟩ : Str) = Str.ofString "first [" by decide +kernel]
      exact z (fun _ => trivial)
    by_cases h123 : c = 123
    · subst h123
      rw [if_neg (by decide), if_pos rfl]
      have z := z rest cnt nm
      have e : stBegin st 123 = if st.length = 60 then ⟨.deep, st, false⟩ else ⟨.first true, true :: st, true⟩ := rfl
      rw [e] at z
      by_cases h60 : st.length = 60
      · rw [if_pos (show (st.reverse.length : Int) = 60 by rw [List.length_reverse]; omega)]
        rw [if_pos h60] at z
        exact z (fun h => nomatch h)
      rw [if_neg (show ¬ (st.reverse.length : Int) = 60 by rw [List.length_reverse]; omega)]
      rw [if_neg h60] at z
      have el : List.map brT st.reverse ++ [Tr.str ⟨#[123]⟩] = (true :: st).reverse.map brT := by
        rw [List.reverse_cons, List.map_append, show (⟨#[123]⟩ : Str) = Str.ofString "{" by decide +kernel]
        rfl
      rw [el, w16_pq hsq]
      refine ⟨szn (by rw [List.length_reverse]; omega), ?_, _, _, r1, s1, ?_⟩
      · rw [show (Str.ofString "first ").length = 6 by decide +kernel]; show 6 + 1 ≤ sizeLine; decide
      rw [n1, p1, r3, show Str.ofString "first " ++ (⟨#[123]⟩ : Str) = Str.ofString "first {" by decide +kernel]
      exact z (fun _ => trivial)
    rw [if_neg h91, if_neg h123]
    have e : stBegin st c = if c = 34 then ⟨.str false, st, true⟩ else if c = 110 then ⟨.word [117, 108, 108], st, true⟩ else if c = 116 then ⟨.word [114, 117, 101], st, true⟩ else if c = 102 then ⟨.word [97, 108, 115, 101], st, true⟩ else if c = 45 then ⟨.minus, st, true⟩ else if c = 48 then ⟨.after, st, true⟩ else ⟨.figs 1, st, decide (49 ≤ c ∧ c ≤ 57)⟩ := by
      unfold stBegin
      rw [if_neg (fun h => h.elim h91 h123)]
    rw [e] at z
    clear e
    by_cases h34 : c = 34
    · have z := z rest cnt false
      rw [if_pos h34] at z ⊢
      exact z (fun _ => rfl)
    rw [if_neg h34] at z ⊢
    by_cases h110 : c = 110
    · have z := z (mkS [117, 108, 108]) cnt nm
      rw [if_pos h110] at z ⊢
      exact z (fun _ => ⟨rfl, by simp, by simp⟩)
    rw [if_neg h110] at z ⊢
    by_cases h116 : c = 116
    · have z := z (mkS [114, 117, 101]) cnt nm
      rw [if_pos h116] at z ⊢
      exact z (fun _ => ⟨rfl, by simp, by simp⟩)
    rw [if_neg h116] at z ⊢
    by_cases h102 : c = 102
    · have z := z (mkS [97, 108, 115, 101]) cnt nm
      rw [if_pos h102] at z ⊢
      exact z (fun _ => ⟨rfl, by simp, by simp⟩)
    rw [if_neg h102] at z ⊢
    have z := z rest 1 nm
    by_cases h45 : c = 45
    · rw [if_pos h45] at z ⊢
      refine ⟨_, by rw [if_pos h45]; exact atI_nat (j := 1) rfl, ?_⟩
      rw [r3]
      exact z (fun _ => rfl)
    rw [if_neg h45] at z ⊢
    by_cases h48 : c = 48
    · rw [if_pos h48] at z ⊢
      refine ⟨_, by rw [if_neg h45]; exact atI_nat (j := 0) rfl, ?_⟩
      rw [r3]
      exact z (fun _ => trivial)
    rw [if_neg h48] at z ⊢
    rw [← mem19] at z
    exact z (fun _ => ⟨rfl, by decide⟩)

/-! ### _law_inside -/
abbrev N__law_inside : List Str := ["_law_state", "_law_sign_here"]
theorem sc__law_inside : FnScope N__law_inside ["_law_state", "_law_sign_here"] (defScope s__law_inside) := ⟨rfl, rfl, rfl, by decide +kernel, rfl, by decide +kernel, by decide +kernel⟩
def sp_step16 (f : Mo → Bool) : TSp := fun xs S Q X => ∃ (S0 : Sto) (s q : Addr) (mo : Mo) (st : List Bool) (rest : Str) (cnt : Int) (nm : Bool) (c : Nat), xs = [.ref s, sgnT c] ∧ f mo = true ∧ s ≠ q ∧ S = W16 S0 s q (moN mo) st rest cnt nm ∧ Vars mo rest cnt nm ∧ st.length ≤ 60 ∧
  ∀ rest' cnt' nm', ((stp16 mo st c).ok = true → Vars (stp16 mo st c).mo rest' cnt' nm') → Q (.bl (stp16 mo st c).ok) (W16 S0 s q (moN (stp16 mo st c).mo) (stp16 mo st c).st rest' cnt' nm')
def inStr : Mo → Bool
  | .str _ => true
  | .esc _ => true
  | _ => false
theorem ok__law_inside (T : Top K mg A) {k : Nat}   : CalleeT P w K mg base (k + 1) "_law_inside" ["_law_state", "_law_sign_here"] (sp_step16 inStr) := by
  have nd := sc__law_inside.nd
  refine Def.okT T.d__law_inside sc__law_inside (fun _ _ _ _ _ _ us hl => match us, hl with | [_, _], _ => rfl) (fun xs S Q X h => ?_) ?_ (fun f cdv AA outer s H E hr tk po => have hu := hu_of hr; (ss_cons (s_if (t_cmp (eq_op hr) o_eq (e_ix (ix_op hr) o_ix (e_var 0) e_str (fun _ _ => rfl)) e_str (nomark _)) (ss_cons (s_dput hu (e_var 0) e_str e_str rfl)
      (ss_one (s_ret (e_or (e_cmp (eq_op hr) o_eq (e_var 1) e_str (nomark _)) (e_one (e_cmp (eq_op hr) o_eq (e_var 1) e_str (nomark _))))))) ss_nil)
      (ss_cut (s_if (t_cmp (eq_op hr) o_eq (e_var 1) e_str (nomark _)) (ss_one (s_dput hu (e_var 0) e_str e_str rfl)) (ss_one (s_if (t_cmp (eq_op hr) o_eq (e_var 1) e_str (nomark _)) (ss_one (s_dput hu (e_var 0) e_str (e_ix (ix_op hr) o_ix (e_lst (a_cons e_str (a_cons e_str a_nil))) (e_callTy KB.int_any c_int (by rfl) T.b.b_int boot_int (a_cons (e_ix (ix_op hr) o_ix (e_var 0) e_str (fun _ _ => rfl)) a_nil)) (fun _ _ => rfl)) rfl)) ss_nil)))
      (ss_one (s_ret e_bl))))) ?_
  · obtain ⟨S0, s, q, mo, st, rest, cnt, nm, c, rfl, hf, hsq, rfl, hv, ln, hq⟩ := h
    rfl
  · walk_at "mono"
  · intro xs S Q X cQ cX h
    obtain ⟨S0, s, q, mo, st, rest, cnt, nm, c, rfl, hf, hsq, rfl, hv, ln, hq⟩ := h
    have hT := T.facts
    simp only [KQ.startT, List.map_cons, List.map_nil, List.length_cons, List.length_nil, Nat.reduceAdd, Nat.reduceSub, List.replicate_succ, List.replicate_zero, List.cons_append, List.nil_append]
    have g1 := @g16_mode
    have g2 := @g16_name
    have p1 := @p16_mode
    have n1 := n16 h16_mode
    have r1 := @w16_s S0 s q
    have r3 := @w16_ps S0 s q
    have s1 : stKs.length < sizeLine := by decide
    have c1 := sg_eq (c := c) (k := 34) (l := Str.ofString "\"") (by decide +kernel)
    have c2 := sg_eq (c := c) (k := 92) (l := Str.ofString "\\") (by decide +kernel)
    unfold sgnT
    cases mo with
    | str n =>
      have hv : nm = n := hv
      subst hv
      clear hf
      have e : stp16 (.str nm) st c = if c = 92 then ⟨.esc nm, st, true⟩ else if c = 34 then ⟨if nm = true then .colon else .after, st, true⟩ else ⟨.str nm, st, true⟩ := rfl
      rw [e] at hq
      clear e
      replace hq := Hide.mk hq
      simp only [moN]
      walk_at "vn"
      intro P hP
      clear c1 c2
      have z := hq.go rest cnt nm
      clear hq
      by_cases h1 : c = 92
      · rw [if_pos h1] at z ⊢
        have z := z (fun _ => rfl)
        exact hP.go _ _ (by clear hP; walk_at "vn"; exact z)
      rw [if_neg h1] at z ⊢
      by_cases h2 : c = 34
      · rw [if_pos h2] at z ⊢
        cases nm with
        | true =>
          have z := z (fun _ => trivial)
          refine ⟨_, atI_nat (j := 1) rfl, ?_⟩
          rw [r3]
          exact hP.go _ _ (by clear hP; walk_at "vn"; exact z)
        | false =>
          have z := z (fun _ => trivial)
          refine ⟨_, atI_nat (j := 0) rfl, ?_⟩
          rw [r3]
          exact hP.go _ _ (by clear hP; walk_at "vn"; exact z)
      · rw [if_neg h2] at z ⊢
        have z := z (fun _ => rfl)
        exact hP.go _ _ (by clear hP; walk_at "vn"; exact z)
    | esc n =>
      have hv : nm = n := hv
      subst hv
      clear hf
      have e : stp16 (.esc nm) st c = ⟨.str nm, st, decide (c = 34 ∨ c = 92)⟩ := rfl
      rw [e] at hq
      clear e
      replace hq := Hide.mk hq
      simp only [moN]
      walk_at "vn"
      clear c1 c2
      have z := hq.go rest cnt nm (fun _ => rfl)
      split
      · rename_i h
        rw [decide_eq_true (Or.inl h : c = 34 ∨ c = 92)] at z
        exact z
      · rename_i h
        rw [show decide (c = 34 ∨ c = 92) = decide (c = 92) by simp [h]] at z
        exact z
    | _ => cases hf

/-! ### _law_token -/
abbrev N__law_token : List Str := ["_law_state", "_law_sign_here"]
theorem sc__law_token : FnScope N__law_token ["_law_state", "_law_sign_here"] (defScope s__law_token) := ⟨rfl, rfl, rfl, by decide +kernel, rfl, by decide +kernel, by decide +kernel⟩
theorem vars_after {st : List Bool} {c : Nat} {rest : Str} {cnt : Int} {nm : Bool} : Vars (stAfter st c).mo rest cnt nm := by
  unfold stAfter
  split
  · trivial
  · cases st with
    | nil => trivial
    | cons b s2 =>
      dsimp only
      split
      · cases b <;> trivial
      · split <;> trivial
def inTok : Mo → Bool
  | .word _ => true
  | .minus => true
  | .figs _ => true
  | _ => false
theorem ok__law_token (T : Top K mg A) {k : Nat} (C__law_after : CalleeT P w K mg base k "_law_after" ["_law_state", "_law_sign_here"] (sp_after16))  : CalleeT P w K mg base (k + 1) "_law_token" ["_law_state", "_law_sign_here"] (sp_step16 inTok) := by
  have nd := sc__law_token.nd
  refine Def.okT T.d__law_token sc__law_token (fun _ _ _ _ _ _ us hl => match us, hl with | [_, _], _ => rfl) (fun xs S Q X h => ?_) ?_ (fun f cdv AA outer s H E hr tk po => have hu := hu_of hr; (ss_cons (s_if (t_cmp (eq_op hr) o_eq (e_ix (ix_op hr) o_ix (e_var 0) e_str (fun _ _ => rfl)) e_str (nomark _)) (ss_cons (s_if (t_cmp (ne_op hr) o_eq (e_var 1) (e_ix (ix_op hr) o_ix (e_ix (ix_op hr) o_ix (e_var 0) e_str (fun _ _ => rfl)) e_int (fun _ _ => rfl)) (nomark _)) (ss_one (s_ret e_bl)) ss_nil)
      (ss_cons (s_dput hu (e_var 0) e_str (e_slice (e_ix (ix_op hr) o_ix (e_var 0) e_str (fun _ _ => rfl)) (o_some e_int) o_none) rfl)
      (ss_cut (s_if (t_cmp (eq_op hr) o_eq (e_ix (ix_op hr) o_ix (e_var 0) e_str (fun _ _ => rfl)) e_str (nomark _)) (ss_one (s_dput hu (e_var 0) e_str e_str rfl)) ss_nil)
      (ss_one (s_ret e_bl))))) ss_nil)
      (ss_cons (s_if (t_cmp (eq_op hr) o_eq (e_ix (ix_op hr) o_ix (e_var 0) e_str (fun _ _ => rfl)) e_str (nomark _)) (ss_cons (s_dput hu (e_var 0) e_str e_str rfl)
      (ss_one (s_ret (e_cmp (in_op hr) o_in (e_var 1) e_str (by with_unfolding_all rfl))))) ss_nil)
      (ss_cons (s_if (t_cmp (in_op hr) o_in (e_var 1) e_str (by with_unfolding_all rfl)) (ss_cons (s_dput hu (e_var 0) e_str (e_op ad_op o_add (e_ix (ix_op hr) o_ix (e_var 0) e_str (fun _ _ => rfl)) e_int) rfl)
      (ss_one (s_ret (e_cmp op_le o_le (e_ix (ix_op hr) o_ix (e_var 0) e_str (fun _ _ => rfl)) e_int (nomark _))))) ss_nil)
      (ss_one (s_ret (e_call C__law_after (hr.mono (by omega)) (by rfl) tk (a_cons (e_var 0) (a_cons (e_var 1) a_nil))))))))) ?_
  · obtain ⟨S0, s, q, mo, st, rest, cnt, nm, c, rfl, hf, hsq, rfl, hv, ln, hq⟩ := h
    rfl
  · walk_at "mono"
  · intro xs S Q X cQ cX h
    obtain ⟨S0, s, q, mo, st, rest, cnt, nm, c, rfl, hf, hsq, rfl, hv, ln, hq⟩ := h
    have hT := T.facts
    simp only [KQ.startT, List.map_cons, List.map_nil, List.length_cons, List.length_nil, Nat.reduceAdd, Nat.reduceSub, List.replicate_succ, List.replicate_zero, List.cons_append, List.nil_append]
    have g1 := @g16_mode
    have g2 := @g16_rest
    have g3 := @g16_count
    have p1 := @p16_mode
    have p2 := @p16_rest
    have p3 := @p16_count
    have n1 := n16 h16_mode
    have n2 := n16 h16_rest
    have n3 := n16 h16_count
    have r1 := @w16_s S0 s q
    have r3 := @w16_ps S0 s q
    have s1 : stKs.length < sizeLine := by decide
    unfold sgnT
    cases mo with
    | word w =>
      obtain ⟨rfl, hw, hl⟩ : rest = mkS w ∧ w ≠ [] ∧ w.length ≤ 4 := hv
      clear hf
      cases w with
      | nil => exact absurd rfl hw
      | cons x w =>
      have e : stp16 (.word (x :: w)) st c = if (x :: w : List Nat).head? = some c then ⟨if w = [] then .after else .word w, st, true⟩ else ⟨.word (x :: w), st, false⟩ := rfl
      rw [e] at hq
      clear e
      have lz : (mkS (x :: w)).length ≤ sizeLine := szl (by rw [mkS_len]; omega)
      have ax : atI (mkS (x :: w)).cps.toList 0 = some x := by
        show atI (TL.tl (mkS (x :: w))) 0 = _
        rw [tl_mkS]; exact atI_nat (j := 0) rfl
      have ct : cutS (mkS (x :: w)) (some 1) none = mkS w := by
        refine TL.ext_tl ?_
        rw [KB.tl_cutS, tl_mkS, mkS_len, show (1 : Int) = ((1 : Nat) : Int) from rfl, HT.sIx_nat, HT.sIx_none, tl_mkS]
        simp
      have em : (mkS w = Str.ofString "") = (w = []) := by
        refine propext ⟨fun h => ?_, fun h => ?_⟩
        · rw [← tl_mkS w, h]; decide +kernel
        · subst h; exact TL.ext_tl (by rw [tl_mkS]; decide +kernel)
      replace hq := Hide.mk hq
      simp only [moN]
      walk_at "vn"
      have z := hq.go
      clear hq em
      by_cases h1 : c = x
      · subst h1
        rw [if_neg (fun h => h rfl)]
        intro P hP
        have z := z (mkS w) cnt nm
        rw [if_pos (show (c :: w : List Nat).head? = some c from rfl)] at z
        dsimp only at z
        by_cases h2 : w = []
        · subst h2
          rw [if_pos rfl] at z ⊢
          have z := z (fun _ => trivial)
          exact hP.go _ _ (by clear hP; walk_at "vn"; exact z)
        · rw [if_neg h2] at z ⊢
          have z := z (fun _ => ⟨rfl, h2, by simp at hl; omega⟩)
          exact hP.go _ _ (by clear hP; walk_at "vn"; exact z)
      · rw [if_pos h1]
        have z := z (mkS (x :: w)) cnt nm
        rw [if_neg (show ¬ ((x :: w : List Nat).head? = some c) from fun h => h1 (Option.some.inj h).symm)] at z
        exact z (fun h => nomatch h)
    | minus =>
      have hv : cnt = 1 := hv
      subst hv
      clear hf
      have e : stp16 .minus st c = ⟨.figs 1, st, decide (49 ≤ c ∧ c ≤ 57)⟩ := rfl
      rw [e] at hq
      clear e
      replace hq := Hide.mk hq
      simp only [moN]
      walk_at "vn"
      have z := hq.go rest 1 nm (fun _ => ⟨rfl, by decide⟩)
      rw [← mem19] at z
      exact z
    | figs n =>
      obtain ⟨rfl, hn⟩ : cnt = (n : Int) ∧ n ≤ 30 := hv
      clear hf
      have e : stp16 (.figs n) st c = if isDg c = true then ⟨.figs (n + 1), st, decide (n + 1 ≤ 30)⟩ else stAfter st c := rfl
      rw [e] at hq
      clear e
      replace hq := Hide.mk hq
      simp only [moN]
      walk_at "vn"
      have z := hq.go
      clear hq
      simp only [dg_mem]
      by_cases hd : isDg c = true
      · have z := z rest (n + 1) nm
        rw [if_pos hd] at z ⊢
        have z := z (fun h => ⟨by simp, of_decide_eq_true h⟩)
        rw [show decide (n + 1 ≤ 30) = decide ((n : Int) + 1 ≤ 30) by rw [decide_eq_decide]; omega] at z
        exact z
      · have z := z rest n nm
        rw [if_neg hd] at z ⊢
        exact ⟨S0, s, q, _, st, rest, n, nm, c, rfl, hsq, rfl, ln, z (fun _ => vars_after)⟩
    | _ => cases hf

/-! ### _law_step -/
abbrev N__law_step : List Str := ["_law_state", "_law_sign_here", "_law_mode"]
theorem sc__law_step : FnScope N__law_step ["_law_state", "_law_sign_here"] (defScope s__law_step) := ⟨rfl, rfl, rfl, by decide +kernel, rfl, by decide +kernel, by decide +kernel⟩
theorem ok__law_step (T : Top K mg A) {k : Nat} (C__law_after : CalleeT P w K mg base k "_law_after" ["_law_state", "_law_sign_here"] (sp_after16)) (C__law_begin : CalleeT P w K mg base k "_law_begin" ["_law_state", "_law_sign_here"] (sp_begin16)) (C__law_inside : CalleeT P w K mg base k "_law_inside" ["_law_state", "_law_sign_here"] (sp_step16 inStr)) (C__law_token : CalleeT P w K mg base k "_law_token" ["_law_state", "_law_sign_here"] (sp_step16 inTok))  : CalleeT P w K mg base (k + 1) "_law_step" ["_law_state", "_law_sign_here"] (sp_step16 (fun mo => !isDeep mo)) := by
  have nd := sc__law_step.nd
  refine Def.okT T.d__law_step sc__law_step (fun _ _ _ _ _ _ us hl => match us, hl with | [_, _], _ => rfl) (fun xs S Q X h => ?_) ?_ (fun f cdv AA outer s H E hr tk po => have hu := hu_of hr; (ss_cons (s_set (i := 2) nd rfl (Or.inl rfl) (e_ix (ix_op hr) o_ix (e_var 0) e_str (fun _ _ => rfl)))
      (ss_cons (s_if (TPW.pt (w_or (t_cmp (eq_op hr) o_eq (e_var 2) e_str (nomark _)) (w_or1 (t_cmp (eq_op hr) o_eq (e_var 2) e_str (nomark _))))) (ss_one (s_ret (e_call C__law_inside (hr.mono (by omega)) (by rfl) tk (a_cons (e_var 0) (a_cons (e_var 1) a_nil))))) ss_nil)
      (ss_cons (s_if (TPW.pt (w_or (t_cmp (eq_op hr) o_eq (e_var 2) e_str (nomark _)) (w_or (t_cmp (eq_op hr) o_eq (e_var 2) e_str (nomark _)) (w_or1 (t_cmp (eq_op hr) o_eq (e_var 2) e_str (nomark _)))))) (ss_one (s_ret (e_call C__law_token (hr.mono (by omega)) (by rfl) tk (a_cons (e_var 0) (a_cons (e_var 1) a_nil))))) ss_nil)
      (ss_cons (s_if (t_cmp (eq_op hr) o_eq (e_var 2) e_str (nomark _)) (ss_one (s_ret (e_call C__law_after (hr.mono (by omega)) (by rfl) tk (a_cons (e_var 0) (a_cons (e_var 1) a_nil))))) ss_nil)
      (ss_cons (s_if (t_cmp (eq_op hr) o_eq (e_var 1) e_str (nomark _)) (ss_one (s_ret e_bl)) ss_nil)
      (ss_cons (s_if (TPW.pt (w_or (TPW.pt (w_and (t_cmp (eq_op hr) o_eq (e_var 2) e_str (nomark _)) (w_and1 (t_cmp (eq_op hr) o_eq (e_var 1) e_str (nomark _))))) (w_or1 (TPW.pt (w_and (t_cmp (eq_op hr) o_eq (e_var 2) e_str (nomark _)) (w_and1 (t_cmp (eq_op hr) o_eq (e_var 1) e_str (nomark _)))))))) (ss_one (s_ret (e_call C__law_after (hr.mono (by omega)) (by rfl) tk (a_cons (e_var 0) (a_cons (e_var 1) a_nil))))) ss_nil)
      (ss_cons (s_if (t_cmp (eq_op hr) o_eq (e_var 2) e_str (nomark _)) (ss_cons (s_dput hu (e_var 0) e_str e_str rfl)
      (ss_one (s_ret (e_cmp (eq_op hr) o_eq (e_var 1) e_str (nomark _))))) ss_nil)
      (ss_cons (s_if (TPW.pt (w_or (t_cmp (eq_op hr) o_eq (e_var 2) e_str (nomark _)) (w_or1 (t_cmp (eq_op hr) o_eq (e_var 2) e_str (nomark _))))) (ss_cons (s_dput hu (e_var 0) e_str e_str rfl)
      (ss_cons (s_dput hu (e_var 0) e_str e_bl rfl)
      (ss_one (s_ret (e_cmp (eq_op hr) o_eq (e_var 1) e_str (nomark _)))))) ss_nil)
      (ss_one (s_ret (e_call C__law_begin (hr.mono (by omega)) (by rfl) tk (a_cons (e_var 0) (a_cons (e_var 1) a_nil)))))))))))))) ?_
  · obtain ⟨S0, s, q, mo, st, rest, cnt, nm, c, rfl, hf, hsq, rfl, hv, ln, hq⟩ := h
    rfl
  · walk_at "mono"
  · intro xs S Q X cQ cX h
    obtain ⟨S0, s, q, mo, st, rest, cnt, nm, c, rfl, hf, hsq, rfl, hv, ln, hq⟩ := h
    have hT := T.facts
    simp only [KQ.startT, List.map_cons, List.map_nil, List.length_cons, List.length_nil, Nat.reduceAdd, Nat.reduceSub, List.replicate_succ, List.replicate_zero, List.cons_append, List.nil_append]
    have g1 := @g16_mode
    have p1 := @p16_mode
    have p4 := @p16_name
    have n1 := n16 h16_mode
    have n4 := n16 h16_name
    have r1 := @w16_s S0 s q
    have r3 := @w16_ps S0 s q
    have s1 : stKs.length < sizeLine := by decide
    have c1 := sg_eq (c := c) (k := 32) (l := Str.ofString " ") (by decide +kernel)
    have c2 := sg_eq (c := c) (k := 93) (l := Str.ofString "]") (by decide +kernel)
    have c3 := sg_eq (c := c) (k := 125) (l := Str.ofString "}") (by decide +kernel)
    have c4 := sg_eq (c := c) (k := 58) (l := Str.ofString ":") (by decide +kernel)
    have c5 := sg_eq (c := c) (k := 34) (l := Str.ofString "\"") (by decide +kernel)
    unfold sgnT
    replace hq := Hide.mk hq
    replace hv := Hide.mk hv
    cases mo with
    | deep => cases hf
    | str n =>
      clear hf
      simp only [moN]
      walk_at "vn"
      exact ⟨S0, s, q, .str n, st, rest, cnt, nm, c, rfl, rfl, hsq, rfl, hv.go, ln, hq.go⟩
    | esc n =>
      clear hf
      simp only [moN]
      walk_at "vn"
      exact ⟨S0, s, q, .esc n, st, rest, cnt, nm, c, rfl, rfl, hsq, rfl, hv.go, ln, hq.go⟩
    | word w =>
      clear hf
      simp only [moN]
      walk_at "vn"
      exact ⟨S0, s, q, .word w, st, rest, cnt, nm, c, rfl, rfl, hsq, rfl, hv.go, ln, hq.go⟩
    | minus =>
      clear hf
      simp only [moN]
      walk_at "vn"
      exact ⟨S0, s, q, .minus, st, rest, cnt, nm, c, rfl, rfl, hsq, rfl, hv.go, ln, hq.go⟩
    | figs n =>
      clear hf
      simp only [moN]
      walk_at "vn"
      exact ⟨S0, s, q, .figs n, st, rest, cnt, nm, c, rfl, rfl, hsq, rfl, hv.go, ln, hq.go⟩
    | after =>
      clear hf
      simp only [moN]
      walk_at "vn"
      exact ⟨S0, s, q, _, st, rest, cnt, nm, c, rfl, hsq, rfl, ln, hq.go rest cnt nm (fun _ => vars_after)⟩
    | value =>
      clear hf
      simp only [moN]
      walk_at "vn"
      have e : stp16 .value st c = if c = 32 then ⟨.value, st, true⟩ else stBegin st c := rfl
      have z := hq.go
      by_cases h : c = 32
      · rw [if_pos h]
        have z := z rest cnt nm
        rw [e, if_pos h] at z
        exact z (fun _ => trivial)
      · rw [if_neg h]
        refine ⟨S0, s, q, _, st, rest, cnt, nm, c, rfl, hsq, rfl, ln, fun r' c' n' hh => ?_⟩
        have z := z r' c' n'
        rw [e, if_neg h] at z
        exact z hh
    | colon =>
      clear hf
      simp only [moN]
      walk_at "vn"
      have e : stp16 .colon st c = if c = 32 then ⟨.colon, st, true⟩ else ⟨.value, st, decide (c = 58)⟩ := rfl
      have z := hq.go rest cnt nm
      rw [e] at z
      by_cases h : c = 32
      · rw [if_pos h] at z ⊢
        exact z (fun _ => trivial)
      · rw [if_neg h] at z ⊢
        exact z (fun _ => trivial)
    | name =>
      clear hf
      simp only [moN]
      walk_at "vn"
      have e : stp16 .name st c = if c = 32 then ⟨.name, st, true⟩ else ⟨.str true, st, decide (c = 34)⟩ := rfl
      have z := hq.go
      by_cases h : c = 32
      · have z := z rest cnt nm
        rw [e, if_pos h] at z
        rw [if_pos h]
        exact z (fun _ => trivial)
      · have z := z rest cnt true
        rw [e, if_neg h] at z
        rw [if_neg h]
        exact z (fun _ => rfl)
    | first b =>
      clear hf
      cases b with
      | true =>
        simp only [moN, if_true]
        walk_at "vn"
        have e : stp16 (.first true) st c = if c = 32 then ⟨.first true, st, true⟩ else if c = 125 then stAfter st c else ⟨.str true, st, decide (c = 34)⟩ := rfl
        have z := hq.go
        by_cases h : c = 32
        · have z := z rest cnt nm
          rw [e, if_pos h] at z
          rw [if_pos h]
          exact z (fun _ => trivial)
        rw [if_neg h]
        by_cases h2 : c = 125
        · have z := z rest cnt nm
          rw [e, if_neg h, if_pos h2] at z
          rw [if_pos h2]
          exact ⟨S0, s, q, _, st, rest, cnt, nm, c, rfl, hsq, rfl, ln, z (fun _ => vars_after)⟩
        · have z := z rest cnt true
          rw [e, if_neg h, if_neg h2] at z
          rw [if_neg h2]
          exact z (fun _ => rfl)
      | false =>
        simp only [moN, Bool.false_eq_true, if_false]
        walk_at "vn"
        have e : stp16 (.first false) st c = if c = 32 then ⟨.first false, st, true⟩ else if c = 93 then stAfter st c else stBegin st c := rfl
        have z := hq.go
        by_cases h : c = 32
        · have z := z rest cnt nm
          rw [e, if_pos h] at z
          rw [if_pos h]
          exact z (fun _ => trivial)
        rw [if_neg h]
        by_cases h2 : c = 93
        · have z := z rest cnt nm
          rw [e, if_neg h, if_pos h2] at z
          rw [if_pos h2]
          exact ⟨S0, s, q, _, st, rest, cnt, nm, c, rfl, hsq, rfl, ln, z (fun _ => vars_after)⟩
        · rw [if_neg h2]
          refine ⟨S0, s, q, _, st, rest, cnt, nm, c, rfl, hsq, rfl, ln, fun r' c' n' hh => ?_⟩
          have z := z r' c' n'
          rw [e, if_neg h, if_neg h2] at z
          exact z hh

/-! ### _law_scanned -/
abbrev N__law_scanned : List Str := ["_law_text_here", "_law_state", "_law_k"]
theorem sc__law_scanned : FnScope N__law_scanned ["_law_text_here"] (defScope s__law_scanned) := ⟨rfl, rfl, rfl, by decide +kernel, rfl, by decide +kernel, by decide +kernel⟩
theorem stp_ok {mo : Mo} {st : List Bool} {c : Nat} (hm : isDeep mo = false) (hl : st.length ≤ 60) (h : (stp16 mo st c).ok = true) : isDeep (stp16 mo st c).mo = false ∧ (stp16 mo st c).st.length ≤ 60 := by
  have ha : isDeep (stAfter st c).mo = false ∧ (stAfter st c).st.length ≤ 60 := by
    unfold stAfter
    split
    · exact ⟨rfl, hl⟩
    · cases st with
      | nil => exact ⟨rfl, hl⟩
      | cons b s =>
        dsimp only
        split
        · exact ⟨by cases b <;> rfl, hl⟩
        · split
          · exact ⟨rfl, by simp at hl; show s.length ≤ 60; omega⟩
          · exact ⟨rfl, hl⟩
  have hb : (stBegin st c).ok = true → isDeep (stBegin st c).mo = false ∧ (stBegin st c).st.length ≤ 60 := by
    unfold stBegin
    split
    · split
      · exact fun h => nomatch h
      · rename_i h60; exact fun _ => ⟨rfl, by show st.length + 1 ≤ 60; omega⟩
    · repeat' split
      all_goals exact fun _ => ⟨rfl, hl⟩
  cases mo with
  | deep => cases hm
  | esc n => exact ⟨rfl, hl⟩
  | minus => exact ⟨rfl, hl⟩
  | after => exact ha
  | str n =>
    show isDeep (if c = 92 then _ else _ : Sg).mo = false ∧ (if c = 92 then _ else _ : Sg).st.length ≤ 60
    split
    · exact ⟨rfl, hl⟩
    · split
      · exact ⟨by cases n <;> rfl, hl⟩
      · exact ⟨rfl, hl⟩
  | word w =>
    show isDeep (if w.head? = some c then _ else _ : Sg).mo = false ∧ (if w.head? = some c then _ else _ : Sg).st.length ≤ 60
    split
    · refine ⟨?_, hl⟩
      show isDeep (if w.tail = [] then Mo.after else .word w.tail) = false
      split <;> rfl
    · exact ⟨rfl, hl⟩
  | figs n =>
    show isDeep (if isDg c = true then _ else _ : Sg).mo = false ∧ (if isDg c = true then _ else _ : Sg).st.length ≤ 60
    split
    · exact ⟨rfl, hl⟩
    · exact ha
  | colon =>
    show isDeep (if c = 32 then _ else _ : Sg).mo = false ∧ (if c = 32 then _ else _ : Sg).st.length ≤ 60
    split <;> exact ⟨rfl, hl⟩
  | name =>
    show isDeep (if c = 32 then _ else _ : Sg).mo = false ∧ (if c = 32 then _ else _ : Sg).st.length ≤ 60
    split <;> exact ⟨rfl, hl⟩
  | value =>
    have e : stp16 .value st c = if c = 32 then ⟨.value, st, true⟩ else stBegin st c := rfl
    rw [e] at h ⊢
    split
    · exact ⟨rfl, hl⟩
    · rename_i h32; rw [if_neg h32] at h; exact hb h
  | first b =>
    have e : stp16 (.first b) st c = if c = 32 then ⟨.first b, st, true⟩ else if c = clB b then stAfter st c else if b = true then ⟨.str true, st, decide (c = 34)⟩ else stBegin st c := rfl
    rw [e] at h ⊢
    split
    · exact ⟨rfl, hl⟩
    · rename_i h32
      rw [if_neg h32] at h
      split
      · exact ha
      · rename_i hc
        rw [if_neg hc] at h
        split
        · exact ⟨rfl, hl⟩
        · rename_i hbb; rw [if_neg hbb] at h; exact hb h
theorem mo_deep (mo : Mo) : (moN mo = Str.ofString "deep") = (isDeep mo = true) := by
  cases mo with
  | first b => cases b <;> exact propext ⟨fun h => absurd h (by decide +kernel), fun h => nomatch h⟩
  | deep => exact propext ⟨fun _ => rfl, fun _ => rfl⟩
  | _ => exact propext ⟨fun h => absurd h (by show ¬ (Str.ofString _ = Str.ofString _); decide +kernel), fun h => nomatch h⟩
theorem mo_end (mo : Mo) : inV (V.str (moN mo)) [V.str (Str.ofString "after"), V.str (Str.ofString "figures")] = isEnd mo := by
  cases mo with
  | first b => cases b <;> decide +kernel
  | str n => show inV (V.str (Str.ofString "string")) _ = false; decide +kernel
  | esc n => show inV (V.str (Str.ofString "escape")) _ = false; decide +kernel
  | word w => show inV (V.str (Str.ofString "word")) _ = false; decide +kernel
  | figs n => show inV (V.str (Str.ofString "figures")) _ = true; decide +kernel
  | _ => decide +kernel
def scT (z : Str) : R16 → Tr
  | .ok _ => .tup [.str "right", .int z.length]
  | .error (.nott r) => .tup [.str "not", .int ((z.length - r.length : Nat) : Int)]
  | .error (.deep r) => .tup [.str "deep", .int ((z.length - r.length : Nat) : Int)]
def sp_scan16 : TSp := fun xs S Q X => ∃ z : Str, xs = [.str z] ∧ z.length ≤ 4000000 ∧ Q (scT z (run16 .value [] (TL.tl z))) S
theorem ok__law_scanned (T : Top K mg A) {k : Nat} (C__law_step : CalleeT P w K mg base k "_law_step" ["_law_state", "_law_sign_here"] (sp_step16 (fun mo => !isDeep mo)))  : CalleeT P w K mg base (k + 1) "_law_scanned" ["_law_text_here"] (sp_scan16) := by
  have nd := sc__law_scanned.nd
  refine Def.okT T.d__law_scanned sc__law_scanned (fun _ _ _ _ _ _ us hl => match us, hl with | [_], _ => rfl) (fun xs S Q X h => ?_) ?_ (fun f cdv AA outer s H E hr tk po => have hu := hu_of hr; (ss_cons (s_set (i := 1) nd rfl (Or.inl rfl) (e_disp (pp_cons e_str e_str (pp_cons e_str (e_lstC a_nil) (pp_cons e_str e_str (pp_cons e_str e_int (pp_cons e_str e_bl pp_nil (fun a b r => pps_cons a b r)) (fun a b r => pps_cons a b r)) (fun a b r => pps_cons a b r)) (fun a b r => pps_cons a b r)) (fun a b r => pps_cons a b r)) (fun h => pe_disp h (by rfl) (by rfl) (fun z => by cases z) (by decide))))
      (ss_cons (s_for (.nm 2) po rfl (i_rng1 (by rfl) T.b.b_range (a_cons (e_callB len_op c_len (by rfl) T.b.b_len boot_len (a_cons (e_var 0) a_nil)) a_nil)) (pg_name (i := 2) nd rfl (Or.inl rfl)) (ss_one (s_if (t_not (t_val (e_call C__law_step (hr.mono (by omega)) (by rfl) tk (a_cons (e_var 1) (a_cons (e_ix (ix_op hr) o_ix (e_var 0) (e_var 2) (fun _ _ => rfl)) a_nil))))) (ss_one (s_ret (e_tup (a_cons (e_ifExp (t_cmp (eq_op hr) o_eq (e_ix (ix_op hr) o_ix (e_var 1) e_str (fun _ _ => rfl)) e_str (nomark _)) e_str e_str) (a_cons (e_var 2) a_nil))))) ss_nil)))
      (ss_cons (s_if (TPW.pt (w_and (t_cmp (eqnil_op hr) o_nil (e_ix (ix_op hr) o_ix (e_var 1) e_str (fun _ _ => rfl)) (e_lstC a_nil) (nomark _)) (w_and1 (t_cmp (in_op hr) o_in (e_ix (ix_op hr) o_ix (e_var 1) e_str (fun _ _ => rfl)) (e_lst (a_cons e_str (a_cons e_str a_nil))) (by with_unfolding_all rfl))))) (ss_one (s_ret (e_tup (a_cons e_str (a_cons (e_callB len_op c_len (by rfl) T.b.b_len boot_len (a_cons (e_var 0) a_nil)) a_nil))))) ss_nil)
      (ss_one (s_ret (e_tup (a_cons e_str (a_cons (e_callB len_op c_len (by rfl) T.b.b_len boot_len (a_cons (e_var 0) a_nil)) a_nil))))))))) ?_
  · obtain ⟨z, rfl, lz, hq⟩ := h
    rfl
  · walk_at "mono"
  · intro xs S Q X cQ cX h
    obtain ⟨z, rfl, lz, hq⟩ := h
    have hT := T.facts
    simp only [KQ.startT, List.map_cons, List.map_nil, List.length_cons, List.length_nil, Nat.reduceAdd, Nat.reduceSub, List.replicate_succ, List.replicate_zero, List.cons_append, List.nil_append]
    have g1 := @g16_mode
    have g2 := @g16_stack
    have fin : ∀ S', Sub S S' → Q (scT z (run16 .value [] (TL.tl z))) S' := fun S' h => cQ.drop h hq
    clear hq
    replace fin := Hide.mk fin
    walk_at "vn"
    intro q hqn
    refine ⟨stKs, rfl, by decide +kernel, by decide, fun s hs => ?_⟩
    have hsq : s ≠ q := ne_cell put_same hs
    have hs0 : S s = none := by rw [put_ne hsq] at hs; exact hs
    have sb : ∀ m st rest cnt nm, Sub S (W16 S s q m st rest cnt nm) := fun m st rest cnt nm b d e => by
      unfold W16
      rw [put_ne (fun z => by subst z; rw [hs0] at e; cases e), put_ne (fun z => by subst z; rw [hqn] at e; cases e)]
      exact e
    replace sb := Hide.mk sb
    have r1 := @w16_s S s q
    have r2 : ∀ m st rest cnt nm, W16 S s q m st rest cnt nm q = some (.lst (st.reverse.map brT)) := fun _ _ _ _ _ => w16_q hsq
    refine ⟨szM lz, by omega, by omega, ?_⟩
    have ll : (TL.tl z).length = z.length := (TL.len_tl z).symm
    refine loop_inv _ (fun i ρ S' => ∃ x2 mo st rest cnt nm, ρ = [some (.str z), some (.ref s), x2] ∧ S' = W16 S s q (moN mo) st rest cnt nm ∧ isDeep mo = false ∧ st.length ≤ 60 ∧ Vars mo rest cnt nm ∧ run16 .value [] (TL.tl z) = run16 mo st ((TL.tl z).drop i)) ?_ ?_ ⟨_, .value, [], _, _, _, rfl, rfl, rfl, by simp, trivial, rfl⟩
    · rintro i x ρ S' N hx ⟨x2, mo, st, rest, cnt, nm, rfl, rfl, hd, hl, hv, hr⟩ hN
      obtain ⟨rfl, hi⟩ := rng_at hx
      clear hx
      have hi : i < z.length := by omega
      have hi2 : i < (TL.tl z).length := by omega
      have e0 : (TL.tl z).drop i = (TL.tl z)[i] :: (TL.tl z).drop (i + 1) := List.drop_eq_getElem_cons hi2
      have ai : atI z.cps.toList (i : Int) = some (TL.tl z)[i] := atI_nat (List.getElem?_eq_getElem hi2)
      have ldr : ((TL.tl z).drop (i + 1)).length = z.length - (i + 1) := by rw [List.length_drop, ll]
      generalize (TL.tl z)[i] = c at e0 ai
      generalize (TL.tl z).drop (i + 1) = r at e0 ldr hN
      rw [e0, run_cons] at hr
      replace hN := Hide.mk hN
      replace hv := Hide.mk hv
      replace hr := Hide.mk hr
      replace e0 := Hide.mk e0
      replace ldr := Hide.mk ldr
      clear ll hi2
      have lz2 : z.length ≤ sizeLine := szM lz
      walk_at "vn"
      refine ⟨S, s, q, mo, st, rest, cnt, nm, c, rfl, by show (!isDeep mo) = true; rw [hd]; rfl, hsq, rfl, hv.go, hl, fun r' c' n' hok => ?_⟩
      have hr := hr.go
      have fn := fin.go (W16 S s q (moN (stp16 mo st c).mo) (stp16 mo st c).st r' c' n') (sb.go _ _ _ _ _)
      rw [hr] at fn
      have key := fun hk => stp_ok (c := c) hd hl hk
      unfold res16 at hr fn
      generalize stp16 mo st c = g at hr fn key hok ⊢
      clear fin hv
      cases hk : g.ok with
      | true =>
        obtain ⟨o1, o2⟩ := key hk
        refine ⟨true, rfl, ?_⟩
        rw [if_neg (by decide)]
        exact hN.go _ _ ⟨_, g.mo, _, r', c', n', rfl, rfl, o1, o2, hok hk, by rw [hr, if_pos hk]⟩
      | false =>
        rw [hk, if_neg Bool.false_ne_true] at fn
        clear hr key hok hN
        have md := mo_deep g.mo
        have li : z.length - (c :: r).length = i := by have := ldr.go; rw [List.length_cons]; omega
        refine ⟨false, rfl, ?_⟩
        rw [if_pos rfl]
        replace fn := Hide.mk fn
        walk_at "vn"
        have fn := fn.go
        by_cases hdp : isDeep g.mo = true
        · rw [if_pos hdp] at fn ⊢
          have fn : Q (.tup [.str "deep", .int ((z.length - (c :: r).length : Nat) : Int)]) _ := fn
          rw [li] at fn
          exact fn
        · rw [if_neg hdp] at fn ⊢
          have fn : Q (.tup [.str "not", .int ((z.length - (c :: r).length : Nat) : Int)]) _ := fn
          rw [li] at fn
          exact fn
    · rintro ρ S' ⟨x2, mo, st, rest, cnt, nm, rfl, rfl, hd, hl, hv, hr⟩
      rw [rngT_len] at hr
      rw [show ((z.length : Int)).toNat = (TL.tl z).length by omega, List.drop_length, run16] at hr
      clear hv hd hl ll
      replace hr := Hide.mk hr
      walk_at "vl"
      intro p hp
      have np1 : p ≠ s := ne_cell w16_s hp
      have np2 : p ≠ q := ne_cell (w16_q hsq) hp
      have x1 : put (W16 S s q (moN mo) st rest cnt nm) p (.lst []) q = some (.lst (st.reverse.map brT)) := by rw [put_ne np2.symm]; exact w16_q hsq
      have x2 : put (W16 S s q (moN mo) st rest cnt nm) p (.lst []) s = some (.dic stKs [.str (moN mo), .ref q, .str rest, .int cnt, .bl nm]) := by rw [put_ne np1.symm]; exact w16_s
      have fn := fin.go (put (W16 S s q (moN mo) st rest cnt nm) p (.lst [])) (Sub.new (sb.go _ _ _ _ _) ((sb.go _ _ _ _ _).noneAt hp))
      rw [hr.go] at fn
      clear hr fin
      replace fn := Hide.mk fn
      have me := mo_end mo
      have lz2 : z.length ≤ sizeLine := szM lz
      walk_at "vl"
      have fn := fn.go
      cases st with
      | nil =>
        rw [if_pos (show (List.map brT ([] : List Bool).reverse).isEmpty = true from rfl)]
        by_cases he : isEnd mo = true
        · rw [if_pos ⟨rfl, he⟩] at fn
          rw [if_pos he]
          exact fn
        · rw [if_neg (fun h => he h.2)] at fn
          rw [if_neg he]
          exact fn
      | cons b st =>
        rw [if_neg (by simp)]
        rw [if_neg (fun h => nomatch h.1)] at fn
        exact fn

/-! ### _law_source -/
abbrev N__law_source : List Str := ["_law_script", "_law_cell"]
theorem sc__law_source : FnScope N__law_source ["_law_script"] (defScope s__law_source) := ⟨rfl, rfl, rfl, by decide +kernel, rfl, by decide +kernel, by decide +kernel⟩
def sp_source : TSp := fun xs S Q X => ∃ ns : List Int, xs = [.scr ns] ∧ ns.length ≤ 63 ∧ ∀ (p : Addr) (c : Tr), S p = none → SrcOk c → Q (.ref p) (put S p c)
theorem ok__law_source (T : Top K mg A) {k : Nat}   : CalleeT P w K mg base (k + 1) "_law_source" ["_law_script"] (sp_source) := by
  have nd := sc__law_source.nd
  refine Def.okT T.d__law_source sc__law_source (fun _ _ _ _ _ _ us hl => match us, hl with | [_], _ => rfl) (fun xs S Q X h => ?_) ?_ (fun f cdv AA outer s H E hr tk po => have hu := hu_of hr; (ss_one (s_ret (e_disp (pp_cons e_str (e_lc (own := [("_law_cell", 1)]) (.nm 1) rfl nd (i_seq (e_var 0)) (blkOk_by (own := [("_law_cell", 1)]) (N := N__law_source) (sc := defScope s__law_source) (by decide +kernel)) (by decide) (fun _ _ _ _ _ => (pg_name (i := 1) nd rfl (Or.inl rfl) (hf := Or.inr rfl))) (fun _ _ _ _ _ => ts_nil) (fun _ _ _ _ _ => (e_callTy KB.int_any c_int (by rfl) T.b.b_int boot_int (a_cons (e_var 1) a_nil)))) (pp_cons e_str e_int (pp_cons e_str e_int (pp_cons e_str e_int (pp_cons e_str e_int (pp_cons e_str e_int pp_nil (fun a b r => pps_cons a b r)) (fun a b r => pps_cons a b r)) (fun a b r => pps_cons a b r)) (fun a b r => pps_cons a b r)) (fun a b r => pps_cons a b r)) (fun a b r => pps_cons a b r)) (fun h => pe_disp h (by rfl) (by rfl) (fun z => by cases z) (by decide)))))) ?_
  · obtain ⟨ns, rfl, hl, hq⟩ := h
    rfl
  · walk_at "mono"
  · intro xs S Q X cQ cX h
    obtain ⟨ns, rfl, hl, hq⟩ := h
    have hT := T.facts
    simp only [KQ.startT, List.map_cons, List.map_nil, List.length_cons, List.length_nil, Nat.reduceAdd, Nat.reduceSub, List.replicate_succ, List.replicate_zero, List.cons_append, List.nil_append]
    walk_at "vc"
    refine lc_inv _ (fun i acc S' => acc = (ns.map Tr.int).take i ∧ S' = S) ?_ ?_ ⟨rfl, rfl⟩
    · rintro i x acc S' N hx ⟨rfl, rfl⟩ hN
      have hi : i < ns.length := by have := (List.getElem?_eq_some_iff.mp hx).1; rwa [List.length_map] at this
      have ex : x = .int ns[i] := by rw [List.getElem?_map, List.getElem?_eq_getElem hi] at hx; exact (Option.some.inj hx).symm
      subst ex
      walk_at "vc"
      refine ⟨szn (by rw [List.length_take]; omega), hN _ _ ⟨?_, rfl⟩⟩
      rw [List.take_add_one, hx]
      rfl
    · rintro acc S' ⟨rfl, rfl⟩
      rw [List.take_of_length_le (Nat.le_refl _)]
      walk_at "vc"
      exact ⟨srcKs, rfl, sk_nd, by decide, fun p hp => hq p (srcT ns 0 0 7 0 2) hp (src_ok (by decide) (by decide))⟩

/-! ### _law_spaced -/
abbrev N__law_spaced : List Str := ["_law_source_here", "_law_tokens_here", "_law_text_here", "_law_token_here"]
theorem sc__law_spaced : FnScope N__law_spaced ["_law_source_here", "_law_tokens_here"] (defScope s__law_spaced) := ⟨rfl, rfl, rfl, by decide +kernel, rfl, by decide +kernel, by decide +kernel⟩
def sp_spaced : TSp := fun xs S Q X => ∃ (a : Addr) (c : Tr) (ts : List (List Nat)), xs = [.ref a, .lst (ts.map tkT)] ∧ S a = some c ∧ SrcOk c ∧ ts.length + ts.flatten.length ≤ 1000000 ∧
  ∀ (m : Nat) (l : List Nat) (c' : Tr), Spc ts l → m + l.length ≤ 2 + 3 * ts.length + ts.flatten.length → SrcOk c' → Q (.str (mkS (List.replicate m 32 ++ l))) (put S a c')
theorem ok__law_spaced (T : Top K mg A) {k : Nat} (C__law_draw : CalleeT P w K mg base k "_law_draw" ["_law_source_here", "_law_many"] (sp_draw))  : CalleeT P w K mg base (k + 1) "_law_spaced" ["_law_source_here", "_law_tokens_here"] (sp_spaced) := by
  have nd := sc__law_spaced.nd
  refine Def.okT T.d__law_spaced sc__law_spaced (fun _ _ _ _ _ _ us hl => match us, hl with | [_, _], _ => rfl) (fun xs S Q X h => ?_) ?_ (fun f cdv AA outer s H E hr tk po => have hu := hu_of hr; (ss_cons (s_set (i := 2) nd rfl (Or.inl rfl) (e_op ml2_op o_mul2 e_str (e_call C__law_draw (hr.mono (by omega)) (by rfl) tk (a_cons (e_var 0) (a_cons e_int a_nil)))))
      (ss_cons (s_for (.nm 3) po rfl (i_seq (e_var 1)) (pg_name (i := 3) nd rfl (Or.inl rfl)) (ss_cons (s_set (i := 2) nd rfl (Or.inl rfl) (e_op ad_op o_add (e_var 2) (e_var 3)))
      (ss_one (s_if (t_cmp (eq_op hr) o_eq (e_call C__law_draw (hr.mono (by omega)) (by rfl) tk (a_cons (e_var 0) (a_cons e_int a_nil))) e_int (nomark _)) (ss_one (s_set (i := 2) nd rfl (Or.inl rfl) (e_op ad_op o_add (e_var 2) (e_op ml2_op o_mul2 e_str (e_call C__law_draw (hr.mono (by omega)) (by rfl) tk (a_cons (e_var 0) (a_cons e_int a_nil))))))) ss_nil))))
      (ss_one (s_ret (e_var 2)))))) ?_
  · obtain ⟨a, c, ts, rfl, hS, hc, lt, hq⟩ := h
    rfl
  · walk_at "mono"
  · intro xs S Q X cQ cX h
    obtain ⟨a, c, ts, rfl, hS, hc, lt, hq⟩ := h
    have hT := T.facts
    simp only [KQ.startT, List.map_cons, List.map_nil, List.length_cons, List.length_nil, Nat.reduceAdd, Nat.reduceSub, List.replicate_succ, List.replicate_zero, List.cons_append, List.nil_append]
    replace hq := Hide.mk hq
    walk_at "vn"
    refine draw_ok hS hc (by decide) (by decide) fun r c1 r0 r1 d1 => ?_
    walk_at "vn"
    have mo : ∀ k : Int, 0 ≤ k → k < 4 → MulOk (Str.ofString " ") k := fun k k0 k1 => by
      rcases (by omega : k = 0 ∨ k = 1 ∨ k = 2 ∨ k = 3) with h | h | h | h <;> subst h <;> (unfold MulOk; decide +kernel)
    refine ⟨mo _ r0 (by omega), ?_⟩
    rw [sp_mul]
    refine loop_inv _ (fun i ρ S2 => ∃ m l c2 x3, ρ = [some (.ref a), some (.lst (ts.map tkT)), some (.str (mkS (List.replicate m 32 ++ l))), x3] ∧ S2 = put S a c2 ∧ SrcOk c2 ∧ Spc (ts.take i) l ∧ m + l.length ≤ 2 + 3 * i + (ts.take i).flatten.length) ?_ ?_ ⟨r.toNat, [], c1, _, by rw [List.append_nil], rfl, d1.ok, .nil, by simp; omega⟩
    · rintro i x ρ S2 N hx ⟨m, l, c2, x3, rfl, rfl, s2, sp, ll⟩ hN
      rw [List.getElem?_map] at hx
      obtain ⟨t, ht, rfl⟩ := Option.map_eq_some_iff.mp hx
      clear hx
      have hi := (List.getElem?_eq_some_iff.mp ht).1
      have et : ts.take (i + 1) = ts.take i ++ [t] := by rw [List.take_add_one, ht]; rfl
      have fl : (ts.take (i + 1)).flatten.length = (ts.take i).flatten.length + t.length := by rw [et]; simp
      have ft : (ts.take (i + 1)).flatten.length ≤ ts.flatten.length := by
        have : ts.flatten = (ts.take (i + 1)).flatten ++ (ts.drop (i + 1)).flatten := by rw [← List.flatten_append, List.take_append_drop]
        rw [this, List.length_append]; omega
      have sl : sizeLine = 16777216 := sizeLine_eq
      replace sl := Hide.mk sl
      replace hN := Hide.mk hN
      have go : ∀ (n : Nat) (c4 : Tr), n < 4 → SrcOk c4 → N [some (.ref a), some (.lst (ts.map tkT)), some (.str (mkS (List.replicate m 32 ++ l) ++ mkS t ++ mkS (List.replicate n 32))), some (tkT t)] (put S a c4) := fun n c4 n4 s4 => hN.go _ _ ⟨m, l ++ (t ++ List.replicate n 32), c4, some (tkT t), by rw [mkS_app, mkS_app]; simp, rfl, s4, by rw [et]; exact sp.snoc n, by simp only [List.length_append, List.length_replicate]; omega⟩
      replace go := Hide.mk go
      unfold tkT
      walk_at "vn"
      refine ⟨by have := sl.go; rw [mkS_len, mkS_len, List.length_append, List.length_replicate]; omega, ?_⟩
      refine draw_ok put_same s2 (by decide) (by decide) fun r2 c3 r20 r21 d3 => ?_
      walk_at "vn"
      by_cases h0 : r2 = 0
      · rw [if_pos h0]
        refine draw_ok put_same d3.ok (by decide) (by decide) fun r3 c4 r30 r31 d4 => ?_
        walk_at "vn"
        rw [sp_mul]
        refine ⟨by have := sl.go; rw [len_app, mkS_len, mkS_len, mkS_len, List.length_append, List.length_replicate, List.length_replicate]; omega, ?_⟩
        exact go.go r3.toNat c4 (by omega) d4.ok
      · rw [if_neg h0]
        have := go.go 0 c3 (by decide) d3.ok
        rw [show mkS (List.replicate m 32 ++ l) ++ mkS t ++ mkS (List.replicate 0 32) = mkS (List.replicate m 32 ++ l) ++ mkS t by rw [mkS_app, mkS_app]; simp] at this
        exact this
    · rintro ρ S2 ⟨m, l, c2, x3, rfl, rfl, s2, sp, ll⟩
      rw [List.length_map, List.take_of_length_le (Nat.le_refl _)] at sp ll
      walk_at "vn"
      exact hq.go m l c2 sp ll s2

/-! ### _law_squeezed -/
abbrev N__law_squeezed : List Str := ["_law_text_here", "_law_signs", "_law_inside_here", "_law_escaped", "_law_sign_here"]
theorem sc__law_squeezed : FnScope N__law_squeezed ["_law_text_here"] (defScope s__law_squeezed) := ⟨rfl, rfl, rfl, by decide +kernel, rfl, by decide +kernel, by decide +kernel⟩
def sp_sqz : TSp := fun xs S Q X => ∃ z : Str, xs = [.str z] ∧ z.length ≤ 4000000 ∧ Q (.str (mkS (sqz false false (TL.tl z)))) S
theorem ok__law_squeezed (T : Top K mg A) {k : Nat}   : CalleeT P w K mg base (k + 1) "_law_squeezed" ["_law_text_here"] (sp_sqz) := by
  have nd := sc__law_squeezed.nd
  refine Def.okT T.d__law_squeezed sc__law_squeezed (fun _ _ _ _ _ _ us hl => match us, hl with | [_], _ => rfl) (fun xs S Q X h => ?_) ?_ (fun f cdv AA outer s H E hr tk po => have hu := hu_of hr; (ss_cons (s_set (i := 1) nd rfl (Or.inl rfl) (e_lstC a_nil))
      (ss_cons (s_set (i := 2) nd rfl (Or.inl rfl) e_bl)
      (ss_cons (s_set (i := 3) nd rfl (Or.inl rfl) e_bl)
      (ss_cons (s_for (.nm 4) po rfl (i_str (e_var 0)) (pg_name (i := 4) nd rfl (Or.inl rfl)) (ss_cut (s_if (TPW.pt (w_or (t_val (e_var 2)) (w_or1 (t_cmp (ne_op hr) o_eq (e_var 4) e_str (nomark _))))) (ss_one (s_expr (e_mm m_append (e_var 1) (a_cons (e_var 4) a_nil) (fun ho ha => pe_bm PySem.F.plainAttrs_list PySem.F.slot_list_append PySem.F.type_list_append mt_append ho ha)))) ss_nil)
      (ss_one (s_if (t_val (e_var 3)) (ss_one (s_set (i := 3) nd rfl (Or.inl rfl) e_bl)) (ss_one (s_if (TPW.pt (w_and (t_val (e_var 2)) (w_and1 (t_cmp (eq_op hr) o_eq (e_var 4) e_str (nomark _))))) (ss_one (s_set (i := 3) nd rfl (Or.inl rfl) e_bl)) (ss_one (s_if (t_cmp (eq_op hr) o_eq (e_var 4) e_str (nomark _)) (ss_one (s_set (i := 2) nd rfl (Or.inl rfl) (e_not (e_var 2)))) ss_nil))))))))
      (ss_one (s_ret (e_mt PySem.F.plainAttrs_str PySem.F.slot_str_join PySem.F.type_str_join mt_join m_join e_str (a_cons (e_var 1) a_nil) (fun ho ha => pe_bm PySem.F.plainAttrs_str PySem.F.slot_str_join PySem.F.type_str_join mt_join ho ha))))))))) ?_
  · obtain ⟨z, rfl, lz, hq⟩ := h
    rfl
  · walk_at "mono"
  · intro xs S Q X cQ cX h
    obtain ⟨z, rfl, lz, hq⟩ := h
    have hT := T.facts
    simp only [KQ.startT, List.map_cons, List.map_nil, List.length_cons, List.length_nil, Nat.reduceAdd, Nat.reduceSub, List.replicate_succ, List.replicate_zero, List.cons_append, List.nil_append]
    replace hq := Hide.mk hq
    walk_at "vn"
    intro p np
    rw [show z.cps.toList = TL.tl z from rfl]
    have l0 : (TL.tl z).length ≤ 4000000 := by rw [← TL.len_tl]; exact lz
    refine loop_inv _ (fun i ρ S2 => ∃ acc ins esc x4, ρ = [some (.str z), some (.ref p), some (.bl ins), some (.bl esc), x4] ∧ S2 = put S p (.lst (acc.map sgnT)) ∧ acc.length ≤ i ∧ sqz false false (TL.tl z) = acc ++ sqz ins esc ((TL.tl z).drop i)) ?_ ?_ ⟨[], false, false, _, rfl, rfl, Nat.le_refl _, rfl⟩
    · rintro i x ρ S2 N hx ⟨acc, ins, esc, x4, rfl, rfl, la, es⟩ hN
      rw [List.getElem?_map] at hx
      obtain ⟨c, hc, rfl⟩ := Option.map_eq_some_iff.mp hx
      clear hx
      obtain ⟨hi, hci⟩ := List.getElem?_eq_some_iff.mp hc
      have ed : (TL.tl z).drop i = c :: (TL.tl z).drop (i + 1) := by rw [← hci]; exact List.drop_eq_getElem_cons hi
      rw [ed] at es
      generalize (TL.tl z).drop (i + 1) = r at *
      clear hc hci ed
      have sl : sizeLine = 16777216 := sizeLine_eq
      replace sl := Hide.mk sl
      replace hN := Hide.mk hN
      replace es := Hide.mk es
      have e32 := sgn_lit (c := c) (k := 32) (s := " ") (by decide +kernel)
      have e34 := sgn_lit (c := c) (k := 34) (s := "\"") (by decide +kernel)
      have e92 := sgn_lit (c := c) (k := 92) (s := "\\") (by decide +kernel)
      replace e34 := Hide.mk e34
      replace e92 := Hide.mk e92
      replace e32 := Hide.mk e32
      unfold sgnT
      walk_at "vn"
      intro P hP
      have key : ∀ a : List Nat, a.length ≤ 1 → a = (if ins = true ∨ c ≠ 32 then [c] else []) → P [some (.str z), some (.ref p), some (.bl ins), some (.bl esc), some (.str ⟨#[c]⟩)] (put S p (.lst ((acc ++ a).map fun c => Tr.str ⟨#[c]⟩))) := fun a l1 ea => hP.go _ _ (by
        clear hP
        have go : ∀ i2 e2, (if esc = true then sqz ins false r else if ins = true ∧ c = 92 then sqz ins true r else if c = 34 then sqz (!ins) false r else sqz ins false r) = sqz i2 e2 r → N [some (.str z), some (.ref p), some (.bl i2), some (.bl e2), some (.str ⟨#[c]⟩)] (put S p (.lst ((acc ++ a).map fun c => Tr.str ⟨#[c]⟩))) := fun i2 e2 h => by
          refine hN.go _ _ ⟨acc ++ a, i2, e2, _, rfl, rfl, by rw [List.length_append]; omega, ?_⟩
          rw [es.go, sqz, ← ea, h, List.append_assoc]
        replace go := Hide.mk go
        clear ea
        walk_at "vn"
        by_cases he : esc = true
        · rw [if_pos he]
          exact go.go ins false (if_pos he)
        have he' : esc = false := by simpa using he
        rw [if_neg he]
        by_cases hi : ins = true
        · rw [if_pos hi]
          by_cases h92 : c = 92
          · rw [if_pos (e92.go.mpr h92)]
            exact go.go ins true (by rw [if_neg he, if_pos ⟨hi, h92⟩])
          rw [if_neg (fun e => h92 (e92.go.mp e))]
          by_cases h34 : c = 34
          · rw [if_pos (e34.go.mpr h34), he']
            exact go.go (!ins) false (by rw [if_neg he, if_neg (fun h => h92 h.2), if_pos h34])
          rw [if_neg (fun e => h34 (e34.go.mp e)), he']
          exact go.go ins false (by rw [if_neg he, if_neg (fun h => h92 h.2), if_neg h34])
        rw [if_neg hi]
        by_cases h34 : c = 34
        · rw [if_pos (e34.go.mpr h34), he']
          exact go.go (!ins) false (by rw [if_neg he, if_neg (fun h => hi h.1), if_pos h34])
        rw [if_neg (fun e => h34 (e34.go.mp e)), he']
        exact go.go ins false (by rw [if_neg he, if_neg (fun h => hi h.1), if_neg h34]))
      clear hP
      have sl := sl.go
      have k1 := fun h : ins = true ∨ c ≠ 32 => key [c] (Nat.le_refl _) (by rw [if_pos h])
      rw [List.map_append] at k1
      by_cases hi : ins = true
      · rw [if_pos hi]
        exact ⟨by omega, k1 (.inl hi)⟩
      rw [if_neg hi]
      by_cases h32 : c = 32
      · rw [if_neg (fun n => n (e32.go.mpr h32))]
        have := key [] (Nat.zero_le _) (by rw [if_neg (by rintro (h | h); exact hi h; exact h h32)])
        rw [List.append_nil] at this
        exact this
      rw [if_pos (fun e => h32 (e32.go.mp e))]
      exact ⟨by omega, k1 (.inr h32)⟩
    · rintro ρ S2 ⟨acc, ins, esc, x4, rfl, rfl, la, es⟩
      rw [List.length_map] at la es
      rw [List.drop_length] at es
      have es : sqz false false (TL.tl z) = acc := by rw [es]; simp [sqz]
      walk_at "vn"
      have e0 : (Str.ofString "").length = 0 := by decide +kernel
      refine ⟨acc.map fun c => ⟨#[c]⟩, by rw [List.map_map]; rfl, ?_, ?_⟩
      · rw [KB.len_ones (fun z hz => by obtain ⟨c, _, rfl⟩ := List.mem_map.mp hz; rfl), List.length_map, e0]
        omega
      · refine cQ.drop (sub_new np) ?_
        rw [join_sgn, ← es]
        exact hq.go

/-! ### _law_own_string -/
abbrev N__law_own_string : List Str := ["_law_text_here", "_law_signs", "_law_sign_here"]
theorem sc__law_own_string : FnScope N__law_own_string ["_law_text_here"] (defScope s__law_own_string) := ⟨rfl, rfl, rfl, by decide +kernel, rfl, by decide +kernel, by decide +kernel⟩
def sp_ownstr : TSp := fun xs S Q X => ∃ z : Str, xs = [.str z] ∧ z.length ≤ 1000000 ∧ Q (.str (mkS (strK (TL.tl z)))) S
theorem ok__law_own_string (T : Top K mg A) {k : Nat}   : CalleeT P w K mg base (k + 1) "_law_own_string" ["_law_text_here"] (sp_ownstr) := by
  have nd := sc__law_own_string.nd
  refine Def.okT T.d__law_own_string sc__law_own_string (fun _ _ _ _ _ _ us hl => match us, hl with | [_], _ => rfl) (fun xs S Q X h => ?_) ?_ (fun f cdv AA outer s H E hr tk po => have hu := hu_of hr; (ss_cons (s_set (i := 1) nd rfl (Or.inl rfl) (e_lstC a_nil))
      (ss_cons (s_for (.nm 2) po rfl (i_str (e_var 0)) (pg_name (i := 2) nd rfl (Or.inl rfl)) (ss_cut (s_if (TPW.pt (w_or (t_cmp (eq_op hr) o_eq (e_var 2) e_str (nomark _)) (w_or1 (t_cmp (eq_op hr) o_eq (e_var 2) e_str (nomark _))))) (ss_one (s_expr (e_mm m_append (e_var 1) (a_cons e_str a_nil) (fun ho ha => pe_bm PySem.F.plainAttrs_list PySem.F.slot_list_append PySem.F.type_list_append mt_append ho ha)))) ss_nil)
      (ss_one (s_expr (e_mm m_append (e_var 1) (a_cons (e_var 2) a_nil) (fun ho ha => pe_bm PySem.F.plainAttrs_list PySem.F.slot_list_append PySem.F.type_list_append mt_append ho ha))))))
      (ss_one (s_ret (e_op ad_op o_add (e_op ad_op o_add e_str (e_mt PySem.F.plainAttrs_str PySem.F.slot_str_join PySem.F.type_str_join mt_join m_join e_str (a_cons (e_var 1) a_nil) (fun ho ha => pe_bm PySem.F.plainAttrs_str PySem.F.slot_str_join PySem.F.type_str_join mt_join ho ha))) e_str)))))) ?_
  · obtain ⟨z, rfl, lz, hq⟩ := h
    rfl
  · walk_at "mono"
  · intro xs S Q X cQ cX h
    obtain ⟨z, rfl, lz, hq⟩ := h
    have hT := T.facts
    simp only [KQ.startT, List.map_cons, List.map_nil, List.length_cons, List.length_nil, Nat.reduceAdd, Nat.reduceSub, List.replicate_succ, List.replicate_zero, List.cons_append, List.nil_append]
    replace hq := Hide.mk hq
    walk_at "vn"
    intro p np
    rw [show z.cps.toList = TL.tl z from rfl]
    have l0 : (TL.tl z).length ≤ 1000000 := by rw [← TL.len_tl]; exact lz
    refine loop_inv _ (fun i ρ S2 => ∃ x2, ρ = [some (.str z), some (.ref p), x2] ∧ S2 = put S p (.lst ((escL ((TL.tl z).take i)).map sgnT))) ?_ ?_ ⟨_, rfl, rfl⟩
    · rintro i x ρ S2 N hx ⟨x2, rfl, rfl⟩ hN
      rw [List.getElem?_map] at hx
      obtain ⟨c, hc, rfl⟩ := Option.map_eq_some_iff.mp hx
      clear hx
      have et : (TL.tl z).take (i + 1) = (TL.tl z).take i ++ [c] := by rw [List.take_add_one, hc]; rfl
      have le := escL_len ((TL.tl z).take i)
      rw [List.length_take] at le
      have sl : sizeLine = 16777216 := sizeLine_eq
      replace sl := Hide.mk sl
      rw [et, escL_app] at hN
      replace hN := Hide.mk hN
      have e34 := sgn_lit (c := c) (k := 34) (s := "\"") (by decide +kernel)
      have e92 := sgn_lit (c := c) (k := 92) (s := "\\") (by decide +kernel)
      replace e34 := Hide.mk e34
      replace e92 := Hide.mk e92
      unfold sgnT
      walk_at "vn"
      intro P hP
      have key : ∀ l : List Nat, l.length ≤ 2000001 → l ++ [c] = escL ((TL.tl z).take i) ++ escL [c] → P [some (.str z), some (.ref p), some (.str ⟨#[c]⟩)] (put S p (.lst (l.map fun c => Tr.str ⟨#[c]⟩))) := fun l ll el => hP.go _ _ (by
        clear hP
        walk_at "vn"
        refine ⟨by have := sl.go; omega, hN.go _ _ ⟨_, rfl, ?_⟩⟩
        rw [← el, List.map_append]
        rfl)
      clear hP
      have sl := sl.go
      have k2 : ∀ h : c = 34 ∨ c = 92, (escL ((TL.tl z).take i)).length < sizeLine ∧ P [some (.str z), some (.ref p), some (.str ⟨#[c]⟩)] (put S p (.lst ((escL ((TL.tl z).take i)).map (fun c => Tr.str ⟨#[c]⟩) ++ [Tr.str (Str.ofString "\\")]))) := fun h => by
        have := key (escL ((TL.tl z).take i) ++ [92]) (by rw [List.length_append, List.length_singleton]; omega) (by rw [show escL [c] = [92, c] by rw [escL, if_pos h]; rfl]; simp)
        rw [List.map_append] at this
        exact ⟨by omega, by rw [lit92]; exact this⟩
      by_cases h34 : c = 34
      · rw [if_pos (e34.go.mpr h34)]
        exact k2 (.inl h34)
      rw [if_neg (fun e => h34 (e34.go.mp e))]
      by_cases h92 : c = 92
      · rw [if_pos (e92.go.mpr h92)]
        exact k2 (.inr h92)
      rw [if_neg (fun e => h92 (e92.go.mp e))]
      exact key _ (by omega) (by rw [show escL [c] = [c] by rw [escL, if_neg (fun h => h.elim h34 h92)]; rfl])
    · rintro ρ S2 ⟨x2, rfl, rfl⟩
      rw [List.length_map, List.take_of_length_le (Nat.le_refl _)]
      have le := escL_len (TL.tl z)
      walk_at "vn"
      have sl : sizeLine = 16777216 := sizeLine_eq
      have e0 : (Str.ofString "").length = 0 := by decide +kernel
      have e1 : (Str.ofString "\"").length = 1 := by decide +kernel
      have lj : (Txt.join (Str.ofString "") ((escL (TL.tl z)).map fun c => (⟨#[c]⟩ : Str))).length = (escL (TL.tl z)).length := by rw [join_sgn, mkS_len]
      refine ⟨(escL (TL.tl z)).map fun c => ⟨#[c]⟩, by rw [List.map_map]; rfl, ?_, by rw [lj, e1]; omega, by rw [len_app, lj, e1]; omega, ?_⟩
      · rw [KB.len_ones (fun z hz => by obtain ⟨c, _, rfl⟩ := List.mem_map.mp hz; rfl), List.length_map, e0]
        omega
      · refine cQ.drop (sub_new np) ?_
        rw [join_sgn, q34, mkS_app, mkS_app]
        exact hq.go

/-! ### _law_tokens -/
abbrev N__law_tokens : List Str := ["_law_raw_here", "_law_tokens_here", "_law_member"]
theorem sc__law_tokens : FnScope N__law_tokens ["_law_raw_here"] (defScope s__law_tokens) := ⟨rfl, rfl, rfl, by decide +kernel, rfl, by decide +kernel, by decide +kernel⟩
def sp_toks (n : Nat) : TSp := fun xs S Q X => ∃ w : RawV, xs = [rT w] ∧ ROk w ∧ rdepth w < n ∧ rparts w ≤ 5000 ∧ Q (.lst ((tokR w).map tkT)) S
theorem step__law_tokens (T : Top K mg A) {k n : Nat} (C__law_own_string : CalleeT P w K mg base k "_law_own_string" ["_law_text_here"] (sp_ownstr)) (C__law_tokens : CalleeT P w K mg base k "_law_tokens" ["_law_raw_here"] (sp_toks n)) : CalleeT P w K mg base (k + 1) "_law_tokens" ["_law_raw_here"] (sp_toks (n + 1)) := by
  have nd := sc__law_tokens.nd
  refine Def.okT T.d__law_tokens sc__law_tokens (fun _ _ _ _ _ _ us hl => match us, hl with | [_], _ => rfl) (fun xs S Q X h => ?_) ?_ (fun f cdv AA outer s H E hr tk po => have hu := hu_of hr; (ss_cons (s_if (t_cmp KB.is_any o_is (e_var 0) e_non (nomark _)) (ss_one (s_ret (e_lst (a_cons e_str a_nil)))) ss_nil)
      (ss_cons (s_if (t_cmp KB.is_any o_is (e_var 0) e_bl (nomark _)) (ss_one (s_ret (e_lst (a_cons e_str a_nil)))) ss_nil)
      (ss_cons (s_if (t_cmp KB.is_any o_is (e_var 0) e_bl (nomark _)) (ss_one (s_ret (e_lst (a_cons e_str a_nil)))) ss_nil)
      (ss_cons (s_if (t_val (e_callB (g := gIsi K) call_isi c_isi (by rfl) T.b.b_isinstance boot_isinstance (a_cons (e_var 0) (a_cons (e_ty (by rfl) T.b.b_str boot_str) a_nil)))) (ss_one (s_ret (e_lst (a_cons (e_call C__law_own_string (hr.mono (by omega)) (by rfl) tk (a_cons (e_var 0) a_nil)) a_nil)))) ss_nil)
      (ss_cons (s_if (t_val (e_callB (g := gIsi K) call_isi c_isi (by rfl) T.b.b_isinstance boot_isinstance (a_cons (e_var 0) (a_cons (e_ty (by rfl) T.b.b_int boot_int) a_nil)))) (ss_one (s_ret (e_lst (a_cons (e_callTy str4 c_str4 (by rfl) T.b.b_str boot_str (a_cons (e_var 0) a_nil)) a_nil)))) ss_nil)
      (ss_cons (s_set (i := 1) nd rfl (Or.inl rfl) (e_lstC a_nil))
      (ss_cons (s_for (.nm 2) po rfl (i_seq (e_ix (ix_op hr) o_ix (e_var 0) e_int (fun _ _ => rfl))) (pg_name (i := 2) nd rfl (Or.inl rfl)) (ss_cut (s_if (t_cmp (nenil_op hr) o_nil (e_var 1) (e_lst a_nil) (nomark _)) (ss_one (s_expr (e_mm m_append (e_var 1) (a_cons e_str a_nil) (fun ho ha => pe_bm PySem.F.plainAttrs_list PySem.F.slot_list_append PySem.F.type_list_append mt_append ho ha)))) ss_nil)
      (ss_one (s_if (t_cmp (eq_op hr) o_eq (e_ix (ix_op hr) o_ix (e_var 0) e_int (fun _ _ => rfl)) e_str (nomark _)) (ss_one (s_set (i := 1) nd rfl (Or.inl rfl) (e_addC (e_var 1) (e_call C__law_tokens (hr.mono (by omega)) (by rfl) tk (a_cons (e_var 2) a_nil))))) (ss_one (s_set (i := 1) nd rfl (Or.inl rfl) (e_addC (e_op ad_op o_add (e_var 1) (e_lst (a_cons (e_call C__law_own_string (hr.mono (by omega)) (by rfl) tk (a_cons (e_ix (ix_op hr) o_ix (e_var 2) e_int (fun _ _ => rfl)) a_nil)) (a_cons e_str a_nil)))) (e_call C__law_tokens (hr.mono (by omega)) (by rfl) tk (a_cons (e_ix (ix_op hr) o_ix (e_var 2) e_int (fun _ _ => rfl)) a_nil)))))))))
      (ss_cons (s_if (t_cmp (eq_op hr) o_eq (e_ix (ix_op hr) o_ix (e_var 0) e_int (fun _ _ => rfl)) e_str (nomark _)) (ss_one (s_ret (e_op ad_op o_add (e_op ad_op o_add (e_lst (a_cons e_str a_nil)) (e_var 1)) (e_lst (a_cons e_str a_nil))))) ss_nil)
      (ss_one (s_ret (e_op ad_op o_add (e_op ad_op o_add (e_lst (a_cons e_str a_nil)) (e_var 1)) (e_lst (a_cons e_str a_nil)))))))))))))) ?_
  · obtain ⟨w, rfl, ok, dp, np, hq⟩ := h
    rfl
  · walk_at "mono"
  · intro xs S Q X cQ cX h
    obtain ⟨w, rfl, ok, dp, np, hq⟩ := h
    have hT := T.facts
    simp only [KQ.startT, List.map_cons, List.map_nil, List.length_cons, List.length_nil, Nat.reduceAdd, Nat.reduceSub, List.replicate_succ, List.replicate_zero, List.cons_append, List.nil_append]
    have rl := rndR_le ok
    have tl0 := toks_len ok
    replace hq := Hide.mk hq
    cases w with
    | row xs =>
      have hd : 1 + rdepthL xs < n + 1 := dp
      have hp : 1 + rpartsL xs ≤ 5000 := np
      have rl : (rndR (.row xs)).length + 700 ≤ 2000 * (1 + rpartsL xs) := rl
      have ok : ROkL xs := ok
      have lx := rpartsL_ge xs
      rw [tok_row] at tl0
      simp only [List.length_cons, List.length_append, List.length_nil] at tl0
      have jt := joinC_take_len (xs.map tokR)
      simp only [rT, rTL_map]
      have a0 : atI [Tr.str "row", .lst (xs.map rT)] 0 = some (.str "row") := atI_nat (j := 0) rfl
      have a1 : atI [Tr.str "row", .lst (xs.map rT)] 1 = some (.lst (xs.map rT)) := atI_nat (j := 1) rfl
      replace jt := Hide.mk jt
      walk_at "vn"
      intro p0 np0
      refine loop_inv _ (fun i ρ S2 => ∃ p x2, ρ = [some (.tup [.str "row", .lst (xs.map rT)]), some (.ref p), x2] ∧ S2 p = some (.lst ((joinC ((xs.map tokR).take i)).map tkT)) ∧ S p = none ∧ Sub S S2) ?_ ?_ ⟨p0, _, rfl, by rw [put_same]; rfl, np0, sub_new np0⟩
      · rintro i x ρ S2 N hx ⟨p, x2, rfl, hp2, np, sb⟩ hN
        rw [List.getElem?_map] at hx
        obtain ⟨w, hw, rfl⟩ := Option.map_eq_some_iff.mp hx
        clear hx
        have hm := List.mem_of_getElem? hw
        have d1 := rdepthL_mem hm
        have p1 := rpartsL_mem hm
        have o1 := ROkL_mem ok hm
        have vv : ∀ S', vw S' (rT w) = rT w := fun _ => by cases w <;> rfl
        have et : (xs.map tokR).take (i + 1) = (xs.map tokR).take i ++ [tokR w] := by rw [List.take_add_one, List.getElem?_map, hw]; rfl
        have j1 := jt.go i
        have j2 := jt.go (i + 1)
        rw [et, joinC_snoc] at hN j2
        have je := joinC_nil (tss := (xs.map tokR).take i) (fun t ht => by
          obtain ⟨y, hy, rfl⟩ := List.mem_map.mp (List.mem_of_mem_take ht)
          exact tok_nonil (ROkL_mem ok hy))
        generalize (xs.map tokR).take i = tss at *
        have sl : sizeLine = 16777216 := sizeLine_eq
        replace sl := Hide.mk sl
        replace hN := Hide.mk hN
        replace j2 := Hide.mk j2
        walk_at "vn"
        intro P hP
        have key : ∀ (acc : List (List Nat)) (S3 : Sto), S3 p = some (.lst (acc.map tkT)) → Sub S S3 → acc ++ tokR w = (if tss = [] then tokR w else joinC tss ++ [44] :: tokR w) → P [some (.tup [.str "row", .lst (xs.map rT)]), some (.ref p), some (rT w)] S3 := fun acc S3 h3 s3 ea => hP.go _ _ (by
          clear hP hp2
          have ea := Hide.mk ea
          walk_at "vn"
          refine ⟨w, rfl, o1, by omega, by omega, ?_⟩
          walk_at "vn"
          have j2 := j2.go
          rw [← ea.go, List.length_append] at j2
          refine ⟨by have := sl.go; (try simp only [List.length_map]); omega, fun p3 n3 => ?_⟩
          exact hN.go _ _ ⟨p3, _, rfl, by rw [put_same, ← ea.go, List.map_append], sub_none s3 n3, s3.trans (sub_new n3)⟩)
        clear hP hN
        by_cases ht : tss = []
        · subst ht
          rw [if_neg (by simp [joinC])]
          exact key [] S2 hp2 sb (by simp)
        · rw [if_pos (by rw [List.isEmpty_map, je]; simpa using ht)]
          have j2 := j2.go
          rw [if_neg ht] at j2 key
          simp only [List.length_append, List.length_cons] at j2
          have := key (joinC tss ++ [[44]]) (put S2 p (.lst ((joinC tss ++ [[44]]).map tkT))) put_same (sub_put sb np) (by simp)
          rw [List.map_append] at this
          exact ⟨by have := sl.go; omega, by rw [lit44]; exact this⟩
      · rintro ρ S2 ⟨p, x2, rfl, hp2, np, sb⟩
        rw [List.length_map, List.take_of_length_le (by rw [List.length_map]; exact Nat.le_refl _)] at hp2
        walk_at "vn"
        have sl : sizeLine = 16777216 := sizeLine_eq
        have := cQ.drop sb hq.go
        rw [tok_row, List.map_cons, List.map_append] at this
        refine ⟨by simp only [List.length_cons, List.length_nil]; omega, by simp only [List.length_cons, List.length_map, List.length_nil]; omega, ?_⟩
        rw [lit91, lit93]
        exact this
    | tab ns xs =>
      have hd : 1 + rdepthL xs < n + 1 := dp
      have hp : 1 + rpartsL xs ≤ 5000 := np
      have rl : (rndR (.tab ns xs)).length + 700 ≤ 2000 * (1 + rpartsL xs) := rl
      obtain ⟨ok, ln, on⟩ := ok
      have lx := rpartsL_ge xs
      rw [tok_tab] at tl0
      simp only [List.length_cons, List.length_append, List.length_nil] at tl0
      have jt := joinC_take_len ((ns.zip xs).map fun q => strK (TL.tl q.1) :: [58] :: tokR q.2)
      simp only [rT, rTP_zip]
      have a0 : atI [Tr.str "table", .lst ((ns.zip xs).map fun q => Tr.tup [.str q.1, rT q.2])] 0 = some (.str "table") := atI_nat (j := 0) rfl
      have a1 : atI [Tr.str "table", .lst ((ns.zip xs).map fun q => Tr.tup [.str q.1, rT q.2])] 1 = some (.lst ((ns.zip xs).map fun q => Tr.tup [.str q.1, rT q.2])) := atI_nat (j := 1) rfl
      replace jt := Hide.mk jt
      walk_at "vn"
      intro p0 np0
      refine loop_inv _ (fun i ρ S2 => ∃ p x2, ρ = [some (.tup [.str "table", .lst ((ns.zip xs).map fun q => Tr.tup [.str q.1, rT q.2])]), some (.ref p), x2] ∧ S2 p = some (.lst ((joinC (((ns.zip xs).map fun q => strK (TL.tl q.1) :: [58] :: tokR q.2).take i)).map tkT)) ∧ S p = none ∧ Sub S S2) ?_ ?_ ⟨p0, _, rfl, by rw [put_same]; rfl, np0, sub_new np0⟩
      · rintro i x ρ S2 N hx ⟨p, x2, rfl, hp2, np, sb⟩ hN
        rw [List.getElem?_map] at hx
        obtain ⟨⟨z, w⟩, hw, rfl⟩ := Option.map_eq_some_iff.mp hx
        clear hx
        have hm := (List.of_mem_zip (List.mem_of_getElem? hw)).2
        have d1 := rdepthL_mem hm
        have p1 := rpartsL_mem hm
        have o1 := ROkL_mem ok hm
        have oz := on _ (List.of_mem_zip (List.mem_of_getElem? hw)).1
        have vv : ∀ S', vw S' (rT w) = rT w := fun _ => by cases w <;> rfl
        have b0 : atI [Tr.str z, rT w] 0 = some (.str z) := atI_nat (j := 0) rfl
        have b1 : atI [Tr.str z, rT w] 1 = some (rT w) := atI_nat (j := 1) rfl
        have et : ((ns.zip xs).map fun q => strK (TL.tl q.1) :: [58] :: tokR q.2).take (i + 1) = ((ns.zip xs).map fun q => strK (TL.tl q.1) :: [58] :: tokR q.2).take i ++ [strK (TL.tl z) :: [58] :: tokR w] := by rw [List.take_add_one, List.getElem?_map, hw]; rfl
        have j1 := jt.go i
        have j2 := jt.go (i + 1)
        rw [et, joinC_snoc] at hN j2
        have je := joinC_nil (tss := ((ns.zip xs).map fun q => strK (TL.tl q.1) :: [58] :: tokR q.2).take i) (fun t ht => by
          obtain ⟨y, hy, rfl⟩ := List.mem_map.mp (List.mem_of_mem_take ht)
          exact fun h => nomatch h)
        generalize ((ns.zip xs).map fun q => strK (TL.tl q.1) :: [58] :: tokR q.2).take i = tss at *
        have sl : sizeLine = 16777216 := sizeLine_eq
        replace sl := Hide.mk sl
        replace hN := Hide.mk hN
        replace j2 := Hide.mk j2
        have nrt : ¬ (Str.ofString "table" = Str.ofString "row") := by decide +kernel
        walk_at "vn"
        intro P hP
        have key : ∀ (acc : List (List Nat)) (S3 : Sto), S3 p = some (.lst (acc.map tkT)) → Sub S S3 → acc ++ (strK (TL.tl z) :: [58] :: tokR w) = (if tss = [] then strK (TL.tl z) :: [58] :: tokR w else joinC tss ++ [44] :: strK (TL.tl z) :: [58] :: tokR w) → P [some (.tup [.str "table", .lst ((ns.zip xs).map fun q => Tr.tup [.str q.1, rT q.2])]), some (.ref p), some (.tup [.str z, rT w])] S3 := fun acc S3 h3 s3 ea => hP.go _ _ (by
          clear hP hp2
          have ea := Hide.mk ea
          walk_at "vn"
          refine ⟨z, rfl, by have := oz.2; omega, ?_⟩
          walk_at "vn"
          have j2 := j2.go
          rw [← ea.go, List.length_append, List.length_cons, List.length_cons] at j2
          refine ⟨by have := sl.go; simp only [List.length_map, List.length_cons, List.length_nil]; omega, w, rfl, o1, by omega, by omega, ?_⟩
          walk_at "vn"
          refine ⟨by have := sl.go; simp only [List.length_map, List.length_append, List.length_cons, List.length_nil]; omega, fun p3 n3 => ?_⟩
          refine hN.go _ _ ⟨p3, _, rfl, ?_, sub_none s3 n3, s3.trans (sub_new n3)⟩
          rw [put_same, ← ea.go, List.map_append, List.map_cons, List.map_cons, lit58]
          simp [tkT])
        clear hP hN
        by_cases ht : tss = []
        · subst ht
          rw [if_neg (by simp [joinC])]
          exact key [] S2 hp2 sb (by simp)
        · rw [if_pos (by rw [List.isEmpty_map, je]; simpa using ht)]
          have j2 := j2.go
          rw [if_neg ht] at j2 key
          simp only [List.length_append, List.length_cons] at j2
          have := key (joinC tss ++ [[44]]) (put S2 p (.lst ((joinC tss ++ [[44]]).map tkT))) put_same (sub_put sb np) (by simp)
          rw [List.map_append] at this
          exact ⟨by have := sl.go; omega, by rw [lit44]; exact this⟩
      · rintro ρ S2 ⟨p, x2, rfl, hp2, np, sb⟩
        rw [List.length_map, List.take_of_length_le (by rw [List.length_map]; exact Nat.le_refl _)] at hp2
        have nrt : ¬ (Str.ofString "table" = Str.ofString "row") := by decide +kernel
        walk_at "vn"
        have sl : sizeLine = 16777216 := sizeLine_eq
        have := cQ.drop sb hq.go
        rw [tok_tab, List.map_cons, List.map_append] at this
        refine ⟨by simp only [List.length_cons, List.length_nil]; omega, by simp only [List.length_cons, List.length_map, List.length_nil]; omega, ?_⟩
        rw [lit123, lit125]
        exact this
    | non =>
      simp only [rT]
      walk_at "vn"
      rw [show Str.ofString "null" = mkS [110, 117, 108, 108] from TL.ext_tl (by rw [tl_mkS]; decide +kernel)]
      exact hq.go
    | bl b =>
      simp only [rT]
      cases b
      · walk_at "vn"
        rw [show Str.ofString "false" = mkS [102, 97, 108, 115, 101] from TL.ext_tl (by rw [tl_mkS]; decide +kernel)]
        exact hq.go
      · walk_at "vn"
        rw [show Str.ofString "true" = mkS [116, 114, 117, 101] from TL.ext_tl (by rw [tl_mkS]; decide +kernel)]
        exact hq.go
    | int i =>
      simp only [rT]
      walk_at "vn"
      rw [show Str.ofString (toString i) = mkS (TL.tl (intS i)) from (mkS_tl _).symm]
      exact ⟨KB.log_int ok, hq.go⟩
    | str z =>
      simp only [rT]
      walk_at "vn"
      exact ⟨z, rfl, by have := ok.2; omega, hq.go⟩
theorem ok__law_tokens (T : Top K mg A) {k : Nat} (C__law_own_string : CalleeT P w K mg base k "_law_own_string" ["_law_text_here"] (sp_ownstr)) : ∀ n, CalleeT P w K mg base (k + 1 * n) "_law_tokens" ["_law_raw_here"] (sp_toks n)
  | 0 => Def.botT (N := N__law_tokens) T.d__law_tokens (fun _ _ _ _ _ _ us hl => match us, hl with | [_], _ => rfl) (fun xs S Q X h => by
      obtain ⟨_, _, _, h, _⟩ := h
      omega)
  | n + 1 => by
    have C__law_tokens_0 := ok__law_tokens (k := k) T C__law_own_string n
    exact (step__law_tokens T (k := k + 1 * n + 0) (C__law_own_string.lift (by omega)) (C__law_tokens_0.lift (by omega))).lift (by omega)

/-! ### render_string -/
abbrev N_render_string : List Str := ["text"]
theorem sc_render_string : FnScope N_render_string ["text"] (defScope s_render_string) := ⟨rfl, rfl, rfl, by decide +kernel, rfl, by decide +kernel, by decide +kernel⟩
def sp_rstring16 : TSp := fun xs S Q X => ∃ z : Str, xs = [.str z] ∧ z.length ≤ 2500000 ∧ Q (.str (mkS (strK (TL.tl z)))) S
theorem ok_render_string (T : Top K mg A) {k : Nat}   : CalleeT P w K mg base (k + 1) "render_string" ["text"] (sp_rstring16) := by
  have nd := sc_render_string.nd
  refine Def.okT T.d_render_string sc_render_string (fun _ _ _ _ _ _ us hl => match us, hl with | [_], _ => rfl) (fun xs S Q X h => ?_) ?_ (fun f cdv AA outer s H E hr tk po => have hu := hu_of hr; (ss_one (s_ret (e_op ad_op o_add (e_rep2 (e_var 0)) e_str)))) ?_
  · obtain ⟨z, rfl, hl, hq⟩ := h
    rfl
  · walk_at "mono"
  · intro xs S Q X cQ cX h
    obtain ⟨z, rfl, hl, hq⟩ := h
    have hT := T.facts
    simp only [KQ.startT, List.map_cons, List.map_nil, List.length_cons, List.length_nil, Nat.reduceAdd, Nat.reduceSub, List.replicate_succ, List.replicate_zero, List.cons_append, List.nil_append]
    have l1 := KB.repl_len1 z
    have l2 : (Txt.replace (Txt.replace z (Str.ofString "\\") (Str.ofString "\\\\")) (Str.ofString "\"") (Str.ofString "\\\"")).length ≤ 2 * z.length := by
      rw [TL.len_tl, KB.repl_two, TL.len_tl]
      exact KB.esc_len _
    have q1 : (Str.ofString "\"").length = 1 := by decide +kernel
    have q2 : (Str.ofString "\\\\").length = 2 := by decide +kernel
    have q3 : (Str.ofString "\\\"").length = 2 := by decide +kernel
    have e : Str.ofString "\"" ++ Txt.replace (Txt.replace z (Str.ofString "\\") (Str.ofString "\\\\")) (Str.ofString "\"") (Str.ofString "\\\"") ++ Str.ofString "\"" = mkS (strK (TL.tl z)) := by
      refine TL.ext_tl ?_
      rw [TL.tl_append, TL.tl_append, KB.repl_two, esc_eq, tl_mkS, show TL.tl (Str.ofString "\"") = [34] by decide +kernel]
      rfl
    replace hq := Hide.mk hq
    walk_at "vn"
    have sl : sizeLine = 16777216 := sizeLine_eq
    refine ⟨by omega, by omega, by omega, by rw [len_app]; omega, hq.go⟩

/-! ### render -/
abbrev N_render : List Str := ["raw", "shape", "members", "item", "name"]
theorem sc_render : FnScope N_render ["raw"] (defScope s_render) := ⟨rfl, rfl, rfl, by decide +kernel, rfl, by decide +kernel, by decide +kernel⟩
def sp_rend16 (n : Nat) : TSp := fun xs S Q X => ∃ w : RawV, xs = [rT w] ∧ RI w ∧ rdepth w < n ∧ (rndR w).length ≤ 2500000 ∧ Q (.str (mkS (rndR w))) S
theorem step_render (T : Top K mg A) {k n : Nat} (C_render_string : CalleeT P w K mg base k "render_string" ["text"] (sp_rstring16)) (C_render : CalleeT P w K mg base k "render" ["raw"] (sp_rend16 n)) : CalleeT P w K mg base (k + 1) "render" ["raw"] (sp_rend16 (n + 1)) := by
  have nd := sc_render.nd
  refine Def.okT T.d_render sc_render (fun _ _ _ _ _ _ us hl => match us, hl with | [_], _ => rfl) (fun xs S Q X h => ?_) ?_ (fun f cdv AA outer s H E hr tk po => have hu := hu_of hr; (ss_cons (s_if (t_cmp KB.is_any o_is (e_var 0) e_non (nomark _)) (ss_one (s_ret e_str)) ss_nil)
      (ss_cons (s_if (t_cmp KB.is_any o_is (e_var 0) e_bl (nomark _)) (ss_one (s_ret e_str)) ss_nil)
      (ss_cons (s_if (t_cmp KB.is_any o_is (e_var 0) e_bl (nomark _)) (ss_one (s_ret e_str)) ss_nil)
      (ss_cons (s_if (t_val (e_callB (g := gIsi K) call_isi c_isi (by rfl) T.b.b_isinstance boot_isinstance (a_cons (e_var 0) (a_cons (e_ty (by rfl) T.b.b_str boot_str) a_nil)))) (ss_one (s_ret (e_call C_render_string (hr.mono (by omega)) (by rfl) tk (a_cons (e_var 0) a_nil)))) ss_nil)
      (ss_cons (s_if (t_val (e_callB (g := gIsi K) call_isi c_isi (by rfl) T.b.b_isinstance boot_isinstance (a_cons (e_var 0) (a_cons (e_ty (by rfl) T.b.b_int boot_int) a_nil)))) (ss_one (s_ret (e_callTy str4 c_str4 (by rfl) T.b.b_str boot_str (a_cons (e_var 0) a_nil)))) ss_nil)
      (ss_cons (s_asg (.tp [(.nm 1), (.nm 2)]) (e_var 0) (pg_tup rfl (pgs_cons (pg_name (i := 1) nd rfl (Or.inl rfl)) (pgs_cons (pg_name (i := 2) nd rfl (Or.inl rfl)) pgs_nil))))
      (ss_cons (s_if (t_cmp (eq_op hr) o_eq (e_var 1) e_str (nomark _)) (ss_one (s_ret (e_op ad_op o_add (e_op ad_op o_add e_str (e_mt PySem.F.plainAttrs_str PySem.F.slot_str_join PySem.F.type_str_join mt_join m_join e_str (a_cons (e_lc (own := [("item", 3)]) (.nm 3) rfl nd (i_seq (e_var 2)) (blkOk_by (own := [("item", 3)]) (N := N_render) (sc := defScope s_render) (by decide +kernel)) (by decide) (fun _ _ _ _ _ => (pg_name (i := 3) nd rfl (Or.inl rfl) (hf := Or.inr rfl))) (fun _ _ _ _ _ => ts_nil) (fun _ _ _ _ _ => (e_call C_render (hr.mono (by omega)) (by rfl) takes0N (a_cons (e_var 3) a_nil)))) a_nil) (fun ho ha => pe_bm PySem.F.plainAttrs_str PySem.F.slot_str_join PySem.F.type_str_join mt_join ho ha))) e_str))) ss_nil)
      (ss_one (s_ret (e_op ad_op o_add (e_op ad_op o_add e_str (e_mt PySem.F.plainAttrs_str PySem.F.slot_str_join PySem.F.type_str_join mt_join m_join e_str (a_cons (e_lc (own := [("name", 4), ("item", 3)]) (.tp [(.nm 4), (.nm 3)]) rfl nd (i_seq (e_var 2)) (blkOk_by (own := [("name", 4), ("item", 3)]) (N := N_render) (sc := defScope s_render) (by decide +kernel)) (by decide) (fun _ _ _ _ _ => (pg_tup rfl (pgs_cons (pg_name (i := 4) nd rfl (Or.inl rfl) (hf := Or.inr rfl)) (pgs_cons (pg_name (i := 3) nd rfl (Or.inl rfl) (hf := Or.inr rfl)) pgs_nil)))) (fun _ _ _ _ _ => ts_nil) (fun _ _ _ _ _ => (e_op ad_op o_add (e_op ad_op o_add (e_call C_render_string (hr.mono (by omega)) (by rfl) takes0N (a_cons (e_var 4) a_nil)) e_str) (e_call C_render (hr.mono (by omega)) (by rfl) takes0N (a_cons (e_var 3) a_nil))))) a_nil) (fun ho ha => pe_bm PySem.F.plainAttrs_str PySem.F.slot_str_join PySem.F.type_str_join mt_join ho ha))) e_str))))))))))) ?_
  · obtain ⟨w, rfl, ok, dp, np, hq⟩ := h
    rfl
  · walk_at "mono"
  · intro xs S Q X cQ cX h
    obtain ⟨w, rfl, ok, dp, np, hq⟩ := h
    have hT := T.facts
    simp only [KQ.startT, List.map_cons, List.map_nil, List.length_cons, List.length_nil, Nat.reduceAdd, Nat.reduceSub, List.replicate_succ, List.replicate_zero, List.cons_append, List.nil_append]
    replace hq := Hide.mk hq
    have sl : sizeLine = 16777216 := sizeLine_eq
    have c1 : (Str.ofString ",").length = 1 := by decide +kernel
    have b1 : (Str.ofString "[").length = 1 := by decide +kernel
    have b2 : (Str.ofString "]").length = 1 := by decide +kernel
    have b3 : (Str.ofString "{").length = 1 := by decide +kernel
    have b4 : (Str.ofString "}").length = 1 := by decide +kernel
    replace sl := Hide.mk sl
    cases w with
    | row xs =>
      have hd : 1 + rdepthL xs < n + 1 := dp
      have hp := np
      rw [rend_row] at hp
      simp only [List.length_cons, List.length_append, List.length_nil] at hp
      have s := joinL_len (xs.map rndR)
      have s2 := s
      rw [List.length_map (f := rndR)] at s2
      have ok : RIL xs := ok
      simp only [rT, rTL_map]
      walk_at "vn"
      refine lc_mapM xs rT (fun w => Tr.str (mkS (rndR w))) trivial (by omega) (fun w hw N1 k1 => ?_) ?_
      · have d1 := rdepthL_mem hw
        have p1 := len_mem (L := xs.map rndR) (x := rndR w) (List.mem_map.mpr ⟨w, hw, rfl⟩)
        replace k1 := Hide.mk k1
        clear s
        replace s2 := Hide.mk s2
        replace p1 := Hide.mk p1
        walk_at "vn"
        exact ⟨w, rfl, RIL_mem ok hw, by omega, by have := s2.go; have := p1.go; omega, k1.go⟩
      have es : ∀ S', vw S' (.lst (xs.map fun w => Tr.str (mkS (rndR w)))) = .lst ((xs.map fun w => mkS (rndR w)).map Tr.str) := fun _ => by rw [List.map_map]; rfl
      rw [rend_row] at hq
      have je : Txt.join (Str.ofString ",") (xs.map fun w => mkS (rndR w)) = mkS (TL.joinL [44] (xs.map rndR)) := TL.ext_tl (by
        rw [KB.join_tl, tl_mkS, List.map_map, show TL.tl (Str.ofString ",") = [44] by decide +kernel]
        congr 1
        all_goals exact List.map_congr_left fun w _ => tl_mkS _)
      have lm : ((xs.map fun w => mkS (rndR w)).map (·.length)).sum + (xs.map fun w => mkS (rndR w)).length * (Str.ofString ",").length ≤ 16777216 := by
        rw [c1, Nat.mul_one, List.length_map, List.map_map, show ((·.length) ∘ fun w => mkS (rndR w)) = (List.length ∘ rndR) from funext fun w => mkS_len _]
        rw [List.length_map, List.map_map] at s
        omega
      rw [es]
      refine ⟨_, ⟨_, rfl, lm, rfl⟩, ?_⟩
      rw [je]
      replace lm := Hide.mk lm
      walk_at "vn"
      refine ⟨by have := sl.go; rw [mkS_len]; omega, by have := sl.go; rw [len_app, mkS_len]; omega, ?_⟩
      have := hq.go
      rw [show Str.ofString "[" ++ mkS (TL.joinL [44] (xs.map rndR)) ++ Str.ofString "]" = mkS (91 :: (TL.joinL [44] (xs.map rndR) ++ [93])) from TL.ext_tl (by rw [TL.tl_append, TL.tl_append, tl_mkS, tl_mkS, show TL.tl (Str.ofString "[") = [91] by decide +kernel, show TL.tl (Str.ofString "]") = [93] by decide +kernel]; rfl)]
      exact this
    | tab ns xs =>
      have hd : 1 + rdepthL xs < n + 1 := dp
      have hp := np
      rw [rend_tab] at hp
      simp only [List.length_cons, List.length_append, List.length_nil] at hp
      have s := joinL_len ((ns.zip xs).map fun q => strK (TL.tl q.1) ++ 58 :: rndR q.2)
      have s2 := s
      rw [List.length_map (f := fun q : Str × RawV => strK (TL.tl q.1) ++ 58 :: rndR q.2)] at s2
      obtain ⟨ok, ln⟩ := ok
      simp only [rT, rTP_zip]
      walk_at "vn"
      refine lc_mapM (ns.zip xs) (fun q => Tr.tup [Tr.str q.1, rT q.2]) (fun q => Tr.str (mkS (strK (TL.tl q.1) ++ 58 :: rndR q.2))) trivial (by omega) (fun q hw N1 k1 => ?_) ?_
      · have hx := (List.of_mem_zip hw).2
        have d1 := rdepthL_mem hx
        have ox := RIL_mem ok hx
        have p1 := len_mem (L := (ns.zip xs).map fun q => strK (TL.tl q.1) ++ 58 :: rndR q.2) (x := strK (TL.tl q.1) ++ 58 :: rndR q.2) (List.mem_map.mpr ⟨q, hw, rfl⟩)
        have l1 := strK_ge (TL.tl q.1)
        rw [List.length_append, List.length_cons] at p1
        rw [← TL.len_tl] at l1
        clear s
        replace s2 := Hide.mk s2
        replace p1 := Hide.mk p1
        have b5 : (Str.ofString ":").length = 1 := by decide +kernel
        replace k1 := Hide.mk k1
        walk_at "vn"
        refine ⟨q.1, rfl, by have := s2.go; have := p1.go; omega, ?_⟩
        walk_at "vn"
        refine ⟨by have := sl.go; have := s2.go; have := p1.go; rw [mkS_len]; omega, q.2, rfl, ox, by omega, by have := s2.go; have := p1.go; omega, ?_⟩
        walk_at "vn"
        refine ⟨by have := sl.go; have := s2.go; have := p1.go; rw [len_app, mkS_len, mkS_len]; omega, ?_⟩
        rw [show mkS (strK (TL.tl q.1)) ++ Str.ofString ":" ++ mkS (rndR q.2) = mkS (strK (TL.tl q.1) ++ 58 :: rndR q.2) from TL.ext_tl (by rw [TL.tl_append, TL.tl_append, tl_mkS, tl_mkS, tl_mkS, show TL.tl (Str.ofString ":") = [58] by decide +kernel, List.append_assoc]; rfl)]
        exact k1.go
      have es : ∀ S', vw S' (.lst ((ns.zip xs).map fun q => Tr.str (mkS (strK (TL.tl q.1) ++ 58 :: rndR q.2)))) = .lst (((ns.zip xs).map fun q => mkS (strK (TL.tl q.1) ++ 58 :: rndR q.2)).map Tr.str) := fun _ => by rw [List.map_map]; rfl
      rw [rend_tab] at hq
      have je : Txt.join (Str.ofString ",") ((ns.zip xs).map fun q => mkS (strK (TL.tl q.1) ++ 58 :: rndR q.2)) = mkS (TL.joinL [44] ((ns.zip xs).map fun q => strK (TL.tl q.1) ++ 58 :: rndR q.2)) := TL.ext_tl (by
        rw [KB.join_tl, tl_mkS, List.map_map, show TL.tl (Str.ofString ",") = [44] by decide +kernel]
        congr 1
        all_goals exact List.map_congr_left fun w _ => tl_mkS _)
      have lm : (((ns.zip xs).map fun q => mkS (strK (TL.tl q.1) ++ 58 :: rndR q.2)).map (·.length)).sum + ((ns.zip xs).map fun q => mkS (strK (TL.tl q.1) ++ 58 :: rndR q.2)).length * (Str.ofString ",").length ≤ 16777216 := by
        rw [c1, Nat.mul_one, List.length_map, List.map_map, show ((·.length) ∘ fun q : Str × RawV => mkS (strK (TL.tl q.1) ++ 58 :: rndR q.2)) = (List.length ∘ fun q : Str × RawV => strK (TL.tl q.1) ++ 58 :: rndR q.2) from funext fun w => mkS_len _]
        rw [List.length_map, List.map_map] at s
        omega
      rw [es]
      refine ⟨_, ⟨_, rfl, lm, rfl⟩, ?_⟩
      rw [je]
      replace lm := Hide.mk lm
      walk_at "vn"
      refine ⟨by have := sl.go; rw [mkS_len]; omega, by have := sl.go; rw [len_app, mkS_len]; omega, ?_⟩
      have := hq.go
      rw [show Str.ofString "{" ++ mkS (TL.joinL [44] ((ns.zip xs).map fun q => strK (TL.tl q.1) ++ 58 :: rndR q.2)) ++ Str.ofString "}" = mkS (123 :: (TL.joinL [44] ((ns.zip xs).map fun q => strK (TL.tl q.1) ++ 58 :: rndR q.2) ++ [125])) from TL.ext_tl (by rw [TL.tl_append, TL.tl_append, tl_mkS, tl_mkS, show TL.tl (Str.ofString "{") = [123] by decide +kernel, show TL.tl (Str.ofString "}") = [125] by decide +kernel]; rfl)]
      exact this
    | non =>
      simp only [rT]
      walk_at "vn"
      rw [show Str.ofString "null" = mkS (rndR .non) from TL.ext_tl (by rw [tl_mkS]; decide +kernel)]
      exact hq.go
    | bl b =>
      simp only [rT]
      cases b
      · walk_at "vn"
        rw [show Str.ofString "false" = mkS (rndR (.bl false)) from TL.ext_tl (by rw [tl_mkS]; decide +kernel)]
        exact hq.go
      · walk_at "vn"
        rw [show Str.ofString "true" = mkS (rndR (.bl true)) from TL.ext_tl (by rw [tl_mkS]; decide +kernel)]
        exact hq.go
    | int i =>
      simp only [rT]
      walk_at "vn"
      rw [show Str.ofString (toString i) = mkS (rndR (.int i)) from TL.ext_tl (by rw [tl_mkS]; unfold rndR; rw [tokR]; simp; rfl)]
      exact ⟨KB.log_int ok, hq.go⟩
    | str z =>
      simp only [rT]
      walk_at "vn"
      refine ⟨z, rfl, by have np := np; rw [rnd_str] at np; have := strK_ge (TL.tl z); rw [← TL.len_tl] at this; omega, ?_⟩
      have := hq.go
      rw [show rndR (.str z) = strK (TL.tl z) by unfold rndR; rw [tokR]; simp] at this
      exact this
theorem ok_render (T : Top K mg A) {k : Nat} (C_render_string : CalleeT P w K mg base k "render_string" ["text"] (sp_rstring16)) : ∀ n, CalleeT P w K mg base (k + 1 * n) "render" ["raw"] (sp_rend16 n)
  | 0 => Def.botT (N := N_render) T.d_render (fun _ _ _ _ _ _ us hl => match us, hl with | [_], _ => rfl) (fun xs S Q X h => by
      obtain ⟨_, _, _, h, _⟩ := h
      omega)
  | n + 1 => by
    have C_render_0 := ok_render (k := k) T C_render_string n
    exact (step_render T (k := k + 1 * n + 0) (C_render_string.lift (by omega)) (C_render_0.lift (by omega))).lift (by omega)

/-! ### law -/
abbrev N_law : List Str := ["_law_script", "_law_source_here", "_law_text_here", "_law_k", "_law_due", "_law_found"]
theorem sc_law : FnScope N_law ["_law_script"] (defScope s_law) := ⟨rfl, rfl, rfl, by decide +kernel, rfl, by decide +kernel, by decide +kernel⟩
theorem ok_law (T : Top K mg A) {k : Nat} (C__law_changed : CalleeT P w K mg base k "_law_changed" ["_law_source_here", "_law_text_here"] (sp_chg16)) (C__law_draw : CalleeT P w K mg base k "_law_draw" ["_law_source_here", "_law_many"] (sp_draw)) (C__law_raw_deep : CalleeT P w K mg base k "_law_raw_deep" ["_law_source_here", "_law_depth", "_law_room"] (sp_rawdeep)) (C__law_read : CalleeT P w K mg base k "_law_read" ["_law_text_here"] (sp_lread)) (C__law_scanned : CalleeT P w K mg base k "_law_scanned" ["_law_text_here"] (sp_scan16)) (C__law_source : CalleeT P w K mg base k "_law_source" ["_law_script"] (sp_source)) (C__law_spaced : CalleeT P w K mg base k "_law_spaced" ["_law_source_here", "_law_tokens_here"] (sp_spaced)) (C__law_squeezed : CalleeT P w K mg base k "_law_squeezed" ["_law_text_here"] (sp_sqz)) (C__law_tokens : CalleeT P w K mg base k "_law_tokens" ["_law_raw_here"] (sp_toks 62)) (C_render : CalleeT P w K mg base k "render" ["raw"] (sp_rend16 62))  : CalleeT P w K mg base (k + 1) "law" ["_law_script"] (sp_law) := by
  have nd := sc_law.nd
  refine Def.okT T.d_law sc_law (fun _ _ _ _ _ _ us hl => match us, hl with | [_], _ => rfl) (fun xs S Q X h => ?_) ?_ (fun f cdv AA outer s H E hr tk po => have hu := hu_of hr; (ss_cons (s_set (i := 1) nd rfl (Or.inl rfl) (e_call C__law_source (hr.mono (by omega)) (by rfl) tk (a_cons (e_var 0) a_nil)))
      (ss_cons (s_set (i := 2) nd rfl (Or.inl rfl) (e_call C__law_spaced (hr.mono (by omega)) (by rfl) tk (a_cons (e_var 1) (a_cons (e_call C__law_tokens (hr.mono (by omega)) (by rfl) tk (a_cons (e_call C__law_raw_deep (hr.mono (by omega)) (by rfl) tk (a_cons (e_var 1) (a_cons e_int (a_cons e_int a_nil)))) a_nil)) a_nil))))
      (ss_cons (s_for (.nm 3) po rfl (i_rng1 (by rfl) T.b.b_range (a_cons (e_call C__law_draw (hr.mono (by omega)) (by rfl) tk (a_cons (e_var 1) (a_cons e_int a_nil))) a_nil)) (pg_name (i := 3) nd rfl (Or.inl rfl)) (ss_one (s_set (i := 2) nd rfl (Or.inl rfl) (e_call C__law_changed (hr.mono (by omega)) (by rfl) tk (a_cons (e_var 1) (a_cons (e_var 2) a_nil))))))
      (ss_cons (s_set (i := 4) nd rfl (Or.inl rfl) (e_call C__law_scanned (hr.mono (by omega)) (by rfl) tk (a_cons (e_var 2) a_nil)))
      (ss_cons (s_set (i := 5) nd rfl (Or.inl rfl) (e_call C__law_read (hr.mono (by omega)) (by rfl) tk (a_cons (e_var 2) a_nil)))
      (ss_cons (s_if (t_cmp (ne_op hr) o_eq (e_ix (ix_op hr) o_ix (e_var 4) e_int (fun _ _ => rfl)) e_str (nomark _)) (ss_one (s_ret (e_cmp (eq_op hr) o_eq (e_var 5) (e_var 4) (nomark _)))) ss_nil)
      (ss_one (s_ret (e_and (e_cmp (eq_op hr) o_eq (e_ix (ix_op hr) o_ix (e_var 5) e_int (fun _ _ => rfl)) e_str (nomark _)) (e_one (e_cmp (eq_op hr) o_eq (e_call C_render (hr.mono (by omega)) (by rfl) tk (a_cons (e_ix (ix_op hr) o_ix (e_var 5) e_int (fun _ _ => rfl)) a_nil)) (e_call C__law_squeezed (hr.mono (by omega)) (by rfl) tk (a_cons (e_var 2) a_nil)) (nomark _))))))))))))) ?_
  · obtain ⟨ns, rfl, hl, hq⟩ := h
    rfl
  · walk_at "mono"
  · intro xs S Q X cQ cX h
    obtain ⟨ns, rfl, hl, hq⟩ := h
    have hT := T.facts
    simp only [KQ.startT, List.map_cons, List.map_nil, List.length_cons, List.length_nil, Nat.reduceAdd, Nat.reduceSub, List.replicate_succ, List.replicate_zero, List.cons_append, List.nil_append]
    replace hq := Hide.mk hq
    walk_at "vn"
    refine ⟨ns, rfl, hl, fun a c ha hc => ?_⟩
    have fin : ∀ c', Q (.bl true) (put S a c') := fun c' => cQ.drop (sub_new ha) hq.go
    clear hq
    replace fin := Hide.mk fin
    refine ⟨a, 4, 16, c, rfl, put_same, hc, by decide, by decide, by decide, by decide, fun w c2 ow dw pw d2 => ?_⟩
    rw [put_put]
    have pw : rparts w ≤ 150 := by omega
    have rl := rndR_le ow
    have tl0 := toks_len ow
    walk_at "vn"
    refine ⟨w, rfl, ow, by omega, by omega, ?_⟩
    refine ⟨a, c2, tokR w, rfl, put_same, d2, ?_, fun m l c3 hs ll s3 => ?_⟩
    · show (tokR w).length + (rndR w).length ≤ 1000000
      omega
    have ll : m + l.length ≤ 2 + 3 * (tokR w).length + (rndR w).length := ll
    have pr1 : PrL (List.replicate m 32 ++ l) := prL_app (prL_rep m) (prL_spc hs (toks_pr ow))
    rw [put_put]
    have l0 : (List.replicate m 32 ++ l).length ≤ 2000000 := by rw [List.length_append, List.length_replicate]; omega
    generalize List.replicate m 32 ++ l = l at pr1 l0
    clear hs ll rl tl0 pw
    refine draw_ok put_same s3 (by decide) (by decide) fun k c4 k0 k1 d4 => ?_
    rw [put_put]
    walk_at "vn"
    refine ⟨by omega, by omega, ?_⟩
    refine loop_inv _ (fun i ρ S' => ∃ (y : Str) (x3 : Option Tr) (c' : Tr), ρ = [some (.scr ns), some (.ref a), some (.str y), x3, none, none] ∧ S' = put S a c' ∧ SrcOk c' ∧ Pr y ∧ y.length ≤ 2000000 + i) ?_ ?_ ⟨_, _, c4, rfl, rfl, d4.ok, pr1.mk, by rw [mkS_len]; omega⟩
    · rintro i x ρ S' N hx ⟨y, x3, c', rfl, rfl, s', py, ly⟩ hN
      have hi := (rng_at hx).2
      clear hx
      replace hN := Hide.mk hN
      replace py := Hide.mk py
      walk_at "vn"
      refine ⟨a, c', y, rfl, put_same, s', py.go, by omega, fun y2 c5 p2 l2 s5 => ?_⟩
      rw [put_put]
      exact hN.go _ _ ⟨y2, _, c5, rfl, rfl, s5, p2, by omega⟩
    · rintro ρ S' ⟨y, x3, c', rfl, rfl, s', py, ly⟩
      rw [rngT_len] at ly
      have ly : y.length ≤ 2500000 := by omega
      have rt := run_text (TL.tl y)
      replace py := Hide.mk py
      walk_at "vn"
      refine ⟨y, rfl, by omega, ?_⟩
      have t0 : ∀ x z : Tr, atI [x, z] 0 = some x := fun x z => atI_nat (j := 0) rfl
      have t1 : ∀ x z : Tr, atI [x, z] 1 = some z := fun x z => atI_nat (j := 1) rfl
      refine ⟨y, rfl, py.go, by omega, fun v hv => ?_, fun e he => ?_⟩
      · rw [hv] at rt
        obtain ⟨ri, rd, rb⟩ := text_back hv
        have lb : (rndR v).length ≤ 2500000 := by
          rw [rb]
          have := sqz_len false false (TL.tl y)
          rw [← TL.len_tl] at this
          omega
        rw [rt]
        clear rt hv
        replace ri := Hide.mk ri
        simp only [scT]
        have vv : ∀ S' w, vw S' (rT w) = rT w := fun _ _ => vw_rT
        replace rb := Hide.mk rb
        walk_at "vn"
        refine ⟨v, rfl, ri.go, by omega, lb, ?_⟩
        refine ⟨y, rfl, by omega, ?_⟩
        rw [← rb.go]
        walk_at "vn"
        exact fin.go c'
      · rw [he] at rt
        rw [rt]
        clear rt he
        cases e with
        | nott r =>
          simp only [scT, errW, posT, PErr.rest]
          walk_at "vn"
          have pn : Pr (Str.ofString "not") := pr_lit (by decide)
          exact ⟨.bl true, (pos_eq pn pn).mpr (by simp), fin.go c'⟩
        | deep r =>
          simp only [scT, errW, posT, PErr.rest]
          walk_at "vn"
          have pn : Pr (Str.ofString "deep") := pr_lit (by decide)
          exact ⟨.bl true, (pos_eq pn pn).mpr (by simp), fin.go c'⟩

end
set_option maxHeartbeats 0 in
theorem topK {K : PySem.W.Frag} {h : Heap} {mg : Str → Option Value} (X : K.In h) (G : h.Ns mainGlobals mg) (c : SaysB fbK fnK K) : Top K mg ⟨(), (He.ga K "Scanner"), (He.ga K "KeysError"), (He.ga K "NotText"), (He.ga K "TooDeep")⟩ := by
  obtain ⟨fd0, F0⟩ := c.def_ 0 rfl
  obtain ⟨fd1, F1⟩ := c.def_ 1 rfl
  obtain ⟨fd2, F2⟩ := c.def_ 2 rfl
  obtain ⟨fd3, F3⟩ := c.def_ 3 rfl
  obtain ⟨fd4, F4⟩ := c.def_ 4 rfl
  obtain ⟨fd5, F5⟩ := c.def_ 5 rfl
  obtain ⟨fd6, F6⟩ := c.def_ 6 rfl
  obtain ⟨fd7, F7⟩ := c.def_ 7 rfl
  obtain ⟨fd8, F8⟩ := c.def_ 8 rfl
  obtain ⟨fd9, F9⟩ := c.def_ 9 rfl
  obtain ⟨fd10, F10⟩ := c.def_ 10 rfl
  obtain ⟨fd11, F11⟩ := c.def_ 11 rfl
  obtain ⟨fd12, F12⟩ := c.def_ 12 rfl
  obtain ⟨fd13, F13⟩ := c.def_ 13 rfl
  obtain ⟨fd14, F14⟩ := c.def_ 14 rfl
  obtain ⟨fd15, F15⟩ := c.def_ 15 rfl
  obtain ⟨fd16, F16⟩ := c.def_ 16 rfl
  obtain ⟨fd17, F17⟩ := c.def_ 17 rfl
  obtain ⟨fd18, F18⟩ := c.def_ 18 rfl
  obtain ⟨fd19, F19⟩ := c.def_ 19 rfl
  obtain ⟨fd20, F20⟩ := c.def_ 20 rfl
  obtain ⟨fd21, F21⟩ := c.def_ 21 rfl
  obtain ⟨fd22, F22⟩ := c.def_ 22 rfl
  obtain ⟨fd23, F23⟩ := c.def_ 23 rfl
  obtain ⟨fd24, F24⟩ := c.def_ 24 rfl
  obtain ⟨fd25, F25⟩ := c.def_ 25 rfl
  obtain ⟨fd26, F26⟩ := c.def_ 26 rfl
  obtain ⟨fd27, F27⟩ := c.def_ 27 rfl
  obtain ⟨fd28, F28⟩ := c.def_ 28 rfl
  obtain ⟨fd29, F29⟩ := c.def_ 29 rfl
  obtain ⟨fd30, F30⟩ := c.def_ 30 rfl
  obtain ⟨fd31, F31⟩ := c.def_ 31 rfl
  obtain ⟨fd32, F32⟩ := c.def_ 32 rfl
  obtain ⟨fd33, F33⟩ := c.def_ 33 rfl
  obtain ⟨fd34, F34⟩ := c.def_ 34 rfl
  obtain ⟨fd35, F35⟩ := c.def_ 35 rfl
  obtain ⟨fd36, F36⟩ := c.def_ 36 rfl
  obtain ⟨fd37, F37⟩ := c.def_ 37 rfl
  obtain ⟨fd38, F38⟩ := c.def_ 38 rfl
  exact ⟨⟨PySem.W.mg_none_of X G (c.at 0 rfl), PySem.W.mg_none_of X G (c.at 1 rfl), PySem.W.mg_none_of X G (c.at 2 rfl), PySem.W.mg_none_of X G (c.at 3 rfl), PySem.W.mg_none_of X G (c.at 4 rfl), PySem.W.mg_none_of X G (c.at 5 rfl), PySem.W.mg_none_of X G (c.at 6 rfl), PySem.W.mg_none_of X G (c.at 7 rfl), PySem.W.mg_none_of X G (c.at 8 rfl), PySem.W.mg_none_of X G (c.at 9 rfl), PySem.W.mg_none_of X G (c.at 10 rfl), PySem.W.mg_none_of X G (c.at 11 rfl), PySem.W.mg_none_of X G (c.at 12 rfl), PySem.W.mg_none_of X G (c.at 13 rfl), PySem.W.mg_none_of X G (c.at 14 rfl), PySem.W.mg_none_of X G (c.at 15 rfl), PySem.W.mg_none_of X G (c.at 16 rfl), PySem.W.mg_none_of X G (c.at 17 rfl), PySem.W.mg_none_of X G (c.at 18 rfl), PySem.W.mg_none_of X G (c.at 19 rfl), PySem.W.mg_none_of X G (c.at 20 rfl)⟩,
    ⟨⟨_, fd0, fun_of F0, PySem.W.mg_of X G (c.at 21 rfl)⟩⟩,
    ⟨⟨_, fd1, fun_of F1, PySem.W.mg_of X G (c.at 22 rfl)⟩⟩,
    ⟨⟨_, fd2, fun_of F2, PySem.W.mg_of X G (c.at 23 rfl)⟩⟩,
    ⟨⟨_, fd3, fun_of F3, PySem.W.mg_of X G (c.at 24 rfl)⟩⟩,
    ⟨⟨_, fd4, fun_of F4, PySem.W.mg_of X G (c.at 25 rfl)⟩⟩,
    ⟨⟨_, fd5, fun_of F5, PySem.W.mg_of X G (c.at 26 rfl)⟩⟩,
    ⟨⟨_, fd6, fun_of F6, PySem.W.mg_of X G (c.at 27 rfl)⟩⟩,
    ⟨⟨_, fd7, fun_of F7, PySem.W.mg_of X G (c.at 28 rfl)⟩⟩,
    ⟨⟨_, fd8, fun_of F8, PySem.W.mg_of X G (c.at 29 rfl)⟩⟩,
    ⟨⟨_, fd9, fun_of F9, PySem.W.mg_of X G (c.at 30 rfl)⟩⟩,
    ⟨⟨_, fd10, fun_of F10, PySem.W.mg_of X G (c.at 31 rfl)⟩⟩,
    ⟨⟨_, fd11, F11, (c.at 32 rfl), (c.at 33 rfl)⟩⟩,
    ⟨⟨_, fd12, F12, (c.at 34 rfl), (c.at 35 rfl)⟩⟩,
    ⟨⟨_, fd13, F13, (c.at 36 rfl), (c.at 37 rfl)⟩⟩,
    ⟨⟨_, fd14, F14, (c.at 38 rfl), (c.at 39 rfl)⟩⟩,
    ⟨⟨_, fd15, F15, (c.at 40 rfl), (c.at 41 rfl)⟩⟩,
    ⟨⟨_, fd16, F16, (c.at 42 rfl), (c.at 43 rfl)⟩⟩,
    ⟨⟨_, fd17, F17, (c.at 44 rfl), (c.at 45 rfl)⟩⟩,
    ⟨⟨_, fd18, F18, (c.at 46 rfl), (c.at 47 rfl)⟩⟩,
    ⟨⟨_, fd19, F19, (c.at 48 rfl), (c.at 49 rfl)⟩⟩,
    ⟨⟨_, fd20, F20, (c.at 50 rfl), (c.at 51 rfl)⟩⟩,
    ⟨⟨_, fd21, F21, (c.at 52 rfl), (c.at 53 rfl)⟩⟩,
    ⟨⟨_, fd22, F22, (c.at 54 rfl), (c.at 55 rfl)⟩⟩,
    ⟨⟨_, fd23, fun_of F23, PySem.W.mg_of X G (c.at 56 rfl)⟩⟩,
    ⟨⟨_, fd24, fun_of F24, PySem.W.mg_of X G (c.at 57 rfl)⟩⟩,
    ⟨⟨_, fd25, fun_of F25, PySem.W.mg_of X G (c.at 58 rfl)⟩⟩,
    ⟨⟨_, fd26, fun_of F26, PySem.W.mg_of X G (c.at 59 rfl)⟩⟩,
    ⟨⟨_, fd27, fun_of F27, PySem.W.mg_of X G (c.at 60 rfl)⟩⟩,
    ⟨⟨_, fd28, fun_of F28, PySem.W.mg_of X G (c.at 61 rfl)⟩⟩,
    ⟨⟨_, fd29, fun_of F29, PySem.W.mg_of X G (c.at 62 rfl)⟩⟩,
    ⟨⟨_, fd30, fun_of F30, PySem.W.mg_of X G (c.at 63 rfl)⟩⟩,
    ⟨⟨_, fd31, fun_of F31, PySem.W.mg_of X G (c.at 64 rfl)⟩⟩,
    ⟨⟨_, fd32, fun_of F32, PySem.W.mg_of X G (c.at 65 rfl)⟩⟩,
    ⟨⟨_, fd33, fun_of F33, PySem.W.mg_of X G (c.at 66 rfl)⟩⟩,
    ⟨⟨_, fd34, fun_of F34, PySem.W.mg_of X G (c.at 67 rfl)⟩⟩,
    ⟨⟨_, fd35, fun_of F35, PySem.W.mg_of X G (c.at 68 rfl)⟩⟩,
    ⟨⟨_, fd36, fun_of F36, PySem.W.mg_of X G (c.at 69 rfl)⟩⟩,
    ⟨⟨_, fd37, fun_of F37, PySem.W.mg_of X G (c.at 70 rfl)⟩⟩,
    ⟨⟨_, fd38, fun_of F38, PySem.W.mg_of X G (c.at 71 rfl)⟩⟩,
    ⟨PySem.W.mg_of X G (c.at 72 rfl), ⟨⟨(c.at 73 rfl), (c.at 74 rfl), (c.at 75 rfl), (c.at 76 rfl)⟩, (c.at 77 rfl), (c.at 78 rfl), (c.at 79 rfl), (c.at 80 rfl)⟩, (c.at 81 rfl), (c.at 82 rfl)⟩,
    ⟨PySem.W.mg_of X G (c.at 83 rfl)⟩,
    ⟨PySem.W.mg_of X G (c.at 84 rfl)⟩,
    ⟨PySem.W.mg_of X G (c.at 85 rfl)⟩,
    ⟨oexB_ok (c.fact 86 rfl), (c.at 87 rfl), (c.at 88 rfl), (c.at 89 rfl), (c.at 90 rfl)⟩,
    ⟨oexB_ok (c.fact 91 rfl), (c.at 92 rfl), (c.at 93 rfl), (c.at 94 rfl), (c.at 95 rfl)⟩,
    ⟨⟨(c.at 73 rfl), (c.at 74 rfl), (c.at 75 rfl), (c.at 76 rfl)⟩, (show PySem.W.findIn K (.ref (He.ga K "Scanner")) "text" = some none from (c.at 96 rfl))⟩,
    ⟨⟨(c.at 73 rfl), (c.at 74 rfl), (c.at 75 rfl), (c.at 76 rfl)⟩, (show PySem.W.findIn K (.ref (He.ga K "Scanner")) "at" = some none from (c.at 97 rfl))⟩,
    ⟨⟨(c.at 73 rfl), (c.at 74 rfl), (c.at 75 rfl), (c.at 76 rfl)⟩, (show PySem.W.findIn K (.ref (He.ga K "Scanner")) "depth" = some none from (c.at 98 rfl))⟩,
    (c.at 99 rfl),
    (c.at 100 rfl),
    (c.at 101 rfl),
    (c.at 102 rfl),
    (c.at 103 rfl),
    (c.at 104 rfl),
    (c.at 105 rfl),
    (c.at 106 rfl),
    (c.at 107 rfl),
    (c.at 108 rfl),
    (c.at 109 rfl),
    (c.at 110 rfl),
    (c.at 111 rfl),
    ⟨(c.at 112 rfl), (c.at 113 rfl), (c.at 88 rfl), (c.at 114 rfl), (c.at 115 rfl), (c.at 78 rfl), (c.at 79 rfl), (c.at 116 rfl)⟩,
    (c.at 117 rfl),
    (c.at 118 rfl),
    (c.at 119 rfl),
    (c.at 120 rfl),
    ⟨(c.at 121 rfl), (c.at 122 rfl), (c.at 93 rfl), (c.at 123 rfl), (c.at 124 rfl), (c.at 78 rfl), (c.at 79 rfl), (c.at 125 rfl)⟩,
    (c.at 126 rfl),
    (c.at 127 rfl),
    (c.at 128 rfl),
    (c.at 129 rfl),
    gloB_ok (t := .int 30) X G (c.fact 130 rfl),
    gloB_ok (t := .int 60) X G (c.fact 131 rfl)⟩
theorem tabsK {w : World} {K : PySem.W.Frag} {h : Heap} {mg : Str → Option Value} (X : K.In h) (G : h.Ns mainGlobals mg) (c : SaysB fbK fnK K) (d : tabW tsK K = tsK.map fun t => some (He.keysIn w.params t.2)) : KTabs K w mg := ⟨ktab_ok X G (c.at 132 rfl) (tab_at d 0 rfl) (kvs := [("n", .tup [.str "null", .non]), ("t", .tup [.str "true", .bl true]), ("f", .tup [.str "false", .bl false])]) rfl (c.fact 133 rfl)⟩
theorem lawK {P : Program} {w : World} {K : PySem.W.Frag} {mg : Str → Option Value} {A : Adr} [KTabs K w mg] (T : Top K mg A) (base : Heap) : CalleeT P w K mg base 193 "law" ["_law_script"] (sp_law) := by
  have C__law_more := ok__law_more (P := P) (w := w) (base := base) (k := 0) T 
  have C__law_draw := ok__law_draw (P := P) (w := w) (base := base) (k := 1) T (C__law_more.lift (by decide : 1 ≤ 1))
  have C__law_loose_sign := ok__law_loose_sign (P := P) (w := w) (base := base) (k := 2) T (C__law_draw.lift (by decide : 2 ≤ 2))
  have C__law_changed := ok__law_changed (P := P) (w := w) (base := base) (k := 3) T (C__law_draw.lift (by decide : 2 ≤ 3)) (C__law_loose_sign.lift (by decide : 3 ≤ 3))
  have C__law_number := ok__law_number (P := P) (w := w) (base := base) (k := 2) T (C__law_draw.lift (by decide : 2 ≤ 2))
  have C__law_sign := ok__law_sign (P := P) (w := w) (base := base) (k := 2) T (C__law_draw.lift (by decide : 2 ≤ 2))
  have C__law_text := ok__law_text (P := P) (w := w) (base := base) (k := 3) T (C__law_draw.lift (by decide : 2 ≤ 3)) (C__law_sign.lift (by decide : 3 ≤ 3))
  have C__law_key := ok__law_key (P := P) (w := w) (base := base) (k := 4) T (C__law_draw.lift (by decide : 2 ≤ 4)) (C__law_number.lift (by decide : 3 ≤ 4)) (C__law_text.lift (by decide : 4 ≤ 4))
  have C__law_leaf := ok__law_leaf (P := P) (w := w) (base := base) (k := 4) T (C__law_draw.lift (by decide : 2 ≤ 4)) (C__law_number.lift (by decide : 3 ≤ 4)) (C__law_text.lift (by decide : 4 ≤ 4))
  have C__law_raw := ok__law_raw (P := P) (w := w) (base := base) (k := 5) T (C__law_draw.lift (by decide : 2 ≤ 5)) (C__law_key.lift (by decide : 5 ≤ 5)) (C__law_leaf.lift (by decide : 5 ≤ 5)) 5
  have C__law_raw_deep := ok__law_raw_deep (P := P) (w := w) (base := base) (k := 10) T (C__law_draw.lift (by decide : 2 ≤ 10)) (C__law_key.lift (by decide : 5 ≤ 10)) (C__law_raw.lift (by decide : 10 ≤ 10))
  have M_Scanner_here := ok_Scanner_here (P := P) (w := w) (base := base) (k := 0) T 
  have X_NotText := ok_NotText___init__ (P := P) (w := w) (base := base) (k := 0) T
  have M_Scanner_expect := ok_Scanner_expect (P := P) (w := w) (base := base) (k := 1) T (M_Scanner_here.lift (by decide : 1 ≤ 1)) (X_NotText.lift (by decide : 1 ≤ 1))
  have M_Scanner_read_string := ok_Scanner_read_string (P := P) (w := w) (base := base) (k := 3) T (M_Scanner_expect.lift (by decide : 3 ≤ 3)) (M_Scanner_here.lift (by decide : 1 ≤ 3)) (X_NotText.lift (by decide : 1 ≤ 3))
  have M_Scanner_skip_blanks := ok_Scanner_skip_blanks (P := P) (w := w) (base := base) (k := 1) T (M_Scanner_here.lift (by decide : 1 ≤ 1))
  have X_TooDeep := ok_TooDeep___init__ (P := P) (w := w) (base := base) (k := 0) T
  have M_Scanner_read_number := ok_Scanner_read_number (P := P) (w := w) (base := base) (k := 1) T (M_Scanner_here.lift (by decide : 1 ≤ 1)) (X_NotText.lift (by decide : 1 ≤ 1))
  have M_Scanner_read_word := ok_Scanner_read_word (P := P) (w := w) (base := base) (k := 3) T (M_Scanner_expect.lift (by decide : 3 ≤ 3)) (M_Scanner_here.lift (by decide : 1 ≤ 3))
  have M_Scanner_read_value := ok_Scanner_read_value (P := P) (w := w) (base := base) (k := 5) T (M_Scanner_expect.lift (by decide : 3 ≤ 5)) (M_Scanner_read_string.lift (by decide : 5 ≤ 5)) (M_Scanner_skip_blanks.lift (by decide : 2 ≤ 5)) (M_Scanner_here.lift (by decide : 1 ≤ 5)) (X_TooDeep.lift (by decide : 1 ≤ 5)) (M_Scanner_read_number.lift (by decide : 3 ≤ 5)) (M_Scanner_read_word.lift (by decide : 4 ≤ 5)) 61
  have C_Scanner := ok_Scanner___init__ (P := P) (w := w) (base := base) (k := 0) T 
  have C_parse := ok_parse (P := P) (w := w) (base := base) (k := 189) T (M_Scanner_read_value.lift (by decide : 189 ≤ 189)) (M_Scanner_skip_blanks.lift (by decide : 2 ≤ 189)) (C_Scanner.lift (by decide : 1 ≤ 189)) (X_NotText.lift (by decide : 1 ≤ 189))
  have C__law_read := ok__law_read (P := P) (w := w) (base := base) (k := 191) T (C_parse.lift (by decide : 191 ≤ 191))
  have C__law_after := ok__law_after (P := P) (w := w) (base := base) (k := 0) T 
  have C__law_begin := ok__law_begin (P := P) (w := w) (base := base) (k := 0) T 
  have C__law_inside := ok__law_inside (P := P) (w := w) (base := base) (k := 0) T 
  have C__law_token := ok__law_token (P := P) (w := w) (base := base) (k := 1) T (C__law_after.lift (by decide : 1 ≤ 1))
  have C__law_step := ok__law_step (P := P) (w := w) (base := base) (k := 2) T (C__law_after.lift (by decide : 1 ≤ 2)) (C__law_begin.lift (by decide : 1 ≤ 2)) (C__law_inside.lift (by decide : 1 ≤ 2)) (C__law_token.lift (by decide : 2 ≤ 2))
  have C__law_scanned := ok__law_scanned (P := P) (w := w) (base := base) (k := 3) T (C__law_step.lift (by decide : 3 ≤ 3))
  have C__law_source := ok__law_source (P := P) (w := w) (base := base) (k := 0) T 
  have C__law_spaced := ok__law_spaced (P := P) (w := w) (base := base) (k := 2) T (C__law_draw.lift (by decide : 2 ≤ 2))
  have C__law_squeezed := ok__law_squeezed (P := P) (w := w) (base := base) (k := 0) T 
  have C__law_own_string := ok__law_own_string (P := P) (w := w) (base := base) (k := 0) T 
  have C__law_tokens := ok__law_tokens (P := P) (w := w) (base := base) (k := 1) T (C__law_own_string.lift (by decide : 1 ≤ 1)) 62
  have C_render_string := ok_render_string (P := P) (w := w) (base := base) (k := 0) T 
  have C_render := ok_render (P := P) (w := w) (base := base) (k := 1) T (C_render_string.lift (by decide : 1 ≤ 1)) 62
  have C_law := ok_law (P := P) (w := w) (base := base) (k := 192) T (C__law_changed.lift (by decide : 4 ≤ 192)) (C__law_draw.lift (by decide : 2 ≤ 192)) (C__law_raw_deep.lift (by decide : 11 ≤ 192)) (C__law_read.lift (by decide : 192 ≤ 192)) (C__law_scanned.lift (by decide : 4 ≤ 192)) (C__law_source.lift (by decide : 1 ≤ 192)) (C__law_spaced.lift (by decide : 3 ≤ 192)) (C__law_squeezed.lift (by decide : 1 ≤ 192)) (C__law_tokens.lift (by decide : 63 ≤ 192)) (C_render.lift (by decide : 63 ≤ 192))
  exact C_law
theorem endK {w : World} {K : PySem.W.Frag} {h : Heap} {mg : Str → Option Value} {fa : Addr} (X : K.In h) (G : h.Ns mainGlobals mg) (hfa : mg "law" = some (.ref fa)) (c : SaysTW fbK fnK tfK tsK w h K) : ∃ (K : PySem.W.Frag) (fd : FuncData) (sp : Sp), K.In h ∧ (∀ (s : Shared) (u : Value), BindsTo s fd ⟨[u], []⟩ [("_law_script", u)]) ∧ (∀ (H : Hp) (a : Addr) (ns : List Int), ns.length ≤ 63 → Only H → SqL K H a (ns.map V.int) → sp [.ref a] H (fun v _ => v = .bl true) fun _ _ _ => False) ∧ ∀ base : Heap, K.In base → base.Ns mainGlobals mg → FnOk PySem.Challenge.rw_keysthroughtext_k16_whole_spoilt_texts.prog w K mg base (L2N.CX PySem.Challenge.rw_keysthroughtext_k16_whole_spoilt_texts.prog w) 193 fa fd ["_law_script"] sp := by
  have hKT : KTabs K w mg := tabsK X G c.b.s c.t
  replace c := c.b.s
  have T := topK X G c
  obtain ⟨f, fd, F, g⟩ := T.d_law.ex
  have e := hfa.symm.trans g
  cases e
  obtain ⟨oc, od, kV, doc, pm, an, cdv, ct, osl, rfl, lk, hcd⟩ := id F.ex
  exact ⟨K, _, lSp K sp_law, X, fun s v => .of_eq rfl, fun H a ns hl _ hS => law_start hl hS, fun base _ _ => calleeT_fn F g (lawK T base)⟩
end K16
open PySem PySem.W PySem.Calls PyProof.Rows
set_option maxRecDepth 100000 in
set_option maxHeartbeats 0 in
theorem PySem.Challenge.cw_keysthroughtext_k16_whole_spoilt_texts_holds : PySem.Challenge.rw_keysthroughtext_k16_whole_spoilt_texts.Holds := by
  refine K16.finK.2 ?_
  delta K16.finK
  dsimp only
  refine KQ.walk_ofW (l := PySem.Challenge.rw_keysthroughtext_k16_whole_spoilt_texts) (n := 63) (k := 193) (x := "_law_script") (CX := fun w => L2N.CX PySem.Challenge.rw_keysthroughtext_k16_whole_spoilt_texts.prog w) rfl (by decide) (by kernel_rfl) ⟨rfl, by decide, by decide⟩ ?F (fun _ _ _ _ _ h => KQ.law_noexc h)
  intro w mg fa h Y G hmg0
  obtain ⟨KX, c0⟩ := Y
  have c := K16.saysX w h c0
  have hmg : mg ("law" : PySem.Str) = some (.ref fa) := by
    have e : (HandSHeadRun.topDef (OpenLaw.row PySem.Challenge.rw_keysthroughtext_k16_whole_spoilt_texts).prog 36).name = ("law" : PySem.Str) := by kernel_rfl
    rw [← e]
    exact hmg0
  exact K16.endK KX G hmg c
